import Derived.Test.YtifgdpnmgeffbaaGreatDoorG21
import Derived.Test.YtifgdpnmgeffbaaGreatDoorG09
import Derived.Test.YtifgdpnmgeffbaaGreatDoorG11
import Derived.Test.YtifgdpnmgeffbaaGreatDoorG12
import Derived.Test.YtifgdpnmgeffbaaGreatDoorG14
import Derived.Test.YtifgdpnmgeffbaaGreatDoorG16
import Derived.Test.YtifgdpnmgeffbaaGreatDoorG19
import Derived.Test.YtifgdpnmgeffbaaGreatDoorG20
import Derived.Test.YtifgdpnmgeffbaaGreatDoorG10
import Derived.Test.YtifgdpnmgeffbaaGreatDoorG06
import Derived.Test.YtifgdpnmgeffbaaGreatDoorRows
set_option linter.unusedSectionVars false
set_option linter.unusedVariables false
set_option linter.unusedSimpArgs false
set_option maxRecDepth 100000
namespace Vc
open Go Go.Proofs
def tx189:AFun:=⟨56,40,[],
 (.seq
 (.reg [] [⟨some 11,.mov (.tmp 1),none⟩,
 ⟨some 6,.mov (.tmp 11),none⟩])
 (.seq
 (.reg [] [⟨some 7,.mov (.cst (.d (.int .i64 0))),none⟩])
 (.seq
 (.reg [] [⟨some 12,.mov (.tmp 2),none⟩,
 ⟨some 13,.mov (.tmp 1),none⟩,
 ⟨some 14,.arith .sub .i64 (.tmp 12) (.tmp 13),none⟩,
 ⟨some 8,.mov (.tmp 14),none⟩])
 (.seq
 (.seq
 (.reg [] [⟨some 15,.mov (.tmp 8),none⟩,
 ⟨some 16,.arith .sub .i64 (.tmp 15) (.cst (.d (.int .i64 1))),none⟩,
 ⟨some 17,.arith .quo .i64 (.tmp 16) (.cst (.d (.int .i64 2))),none⟩,
 ⟨some 9,.mov (.tmp 17),none⟩])
 (.post [0,6,7,8] []
 (.block 0
 (.keep [0,6,7,8,9] []
 (.loop
 (.post [0,6,7,8,9] []
 (.seq
 (.seq
 (.reg [] [⟨some 18,.mov (.tmp 9),none⟩,
 ⟨some 19,.cmp .geq (.tmp 18) (.cst (.d (.int .i64 0))),none⟩])
 (.cond (.tmp 19)
 .skip
 (.exit 0)))
 (.seq
 (.block 1
 (.reg [] [⟨some 22,.mov (.tmp 0),none⟩,
 ⟨some 23,.mov (.tmp 9),none⟩,
 ⟨some 24,.mov (.tmp 8),none⟩,
 ⟨some 25,.mov (.tmp 6),none⟩,
 ⟨some 26,.calli 213 [(.tmp 22),(.tmp 23),(.tmp 24),(.tmp 25)],none⟩]))
 (.reg [] [⟨some 20,.mov (.tmp 9),none⟩,
 ⟨some 21,.arith .sub .i64 (.tmp 20) (.cst (.d (.int .i64 1))),none⟩,
 ⟨some 9,.mov (.tmp 21),none⟩])))))))))
 (.seq
 (.reg [] [⟨some 27,.mov (.tmp 8),none⟩,
 ⟨some 28,.arith .sub .i64 (.tmp 27) (.cst (.d (.int .i64 1))),none⟩,
 ⟨some 10,.mov (.tmp 28),none⟩])
 (.post [] []
 (.block 2
 (.keep [0,6,7,10] []
 (.loop
 (.post [0,6,7,10] []
 (.seq
 (.seq
 (.reg [] [⟨some 29,.mov (.tmp 10),none⟩,
 ⟨some 30,.cmp .geq (.tmp 29) (.cst (.d (.int .i64 0))),none⟩])
 (.cond (.tmp 30)
 .skip
 (.exit 2)))
 (.seq
 (.block 3
 (.seq
 (.regd [] [⟨some 33,.mov (.tmp 0),none⟩,
 ⟨some 34,.mov (.tmp 6),none⟩,
 ⟨some 35,.mov (.tmp 0),none⟩,
 ⟨some 36,.mov (.tmp 6),none⟩,
 ⟨some 37,.mov (.tmp 10),none⟩,
 ⟨some 38,.arith .add .i64 (.tmp 36) (.tmp 37),none⟩,
 ⟨some 39,.mov (.tmp 0),none⟩,
 ⟨some 40,.mov (.tmp 6),none⟩,
 ⟨some 41,.mov (.tmp 10),none⟩,
 ⟨some 42,.arith .add .i64 (.tmp 40) (.tmp 41),none⟩,
 ⟨some 43,.ixa 1 (.tmp 39) (.tmp 42),none⟩,
 ⟨some 44,.ld false 1 (.tmp 43),none⟩,
 ⟨some 45,.mov (.tmp 0),none⟩,
 ⟨some 46,.mov (.tmp 6),none⟩,
 ⟨some 47,.ixa 1 (.tmp 45) (.tmp 46),none⟩,
 ⟨some 48,.ld false 1 (.tmp 47),none⟩,
 ⟨some 49,.ixa 1 (.tmp 33) (.tmp 34),none⟩,
 ⟨none,.st 1 (.tmp 49) (.tmp 44),none⟩,
 ⟨some 50,.ixa 1 (.tmp 35) (.tmp 38),none⟩,
 ⟨none,.st 1 (.tmp 50) (.tmp 48),none⟩] [(0,1),(0,2),(1,2),(0,3),(1,3),(2,3),(0,4),(1,4),(2,4),(3,4),(0,5),(1,5),(2,5),(0,6),(1,6),(2,6),(3,6),(4,6),(5,6),(0,7),(1,7),(2,7),(3,7),(4,7),(5,7),(6,7),(0,8),(1,8),(2,8),(3,8),(4,8),(5,8),(6,8),(7,8),(0,9),(1,9),(2,9),(3,9),(4,9),(5,9),(6,9),(0,10),(1,10),(2,10),(3,10),(4,10),(5,10),(0,11),(1,11),(2,11),(3,11),(4,11),(5,11),(0,12),(1,12),(2,12),(3,12),(4,12),(5,12),(6,12),(7,12),(8,12),(9,12),(10,12),(11,12),(0,13),(1,13),(2,13),(3,13),(4,13),(5,13),(6,13),(7,13),(8,13),(9,13),(10,13),(11,13),(12,13),(0,14),(1,14),(2,14),(3,14),(4,14),(5,14),(6,14),(7,14),(8,14),(9,14),(10,14),(11,14),(0,15),(1,15),(2,15),(3,15),(4,15),(5,15),(6,15),(7,15),(8,15),(9,15),(10,15),(11,15),(2,16),(3,16),(4,16),(5,16),(2,17),(3,17),(4,17),(5,17)])
 (.reg [] [⟨some 51,.mov (.tmp 0),none⟩,
 ⟨some 52,.mov (.tmp 7),none⟩,
 ⟨some 53,.mov (.tmp 10),none⟩,
 ⟨some 54,.mov (.tmp 6),none⟩,
 ⟨some 55,.calli 213 [(.tmp 51),(.tmp 52),(.tmp 53),(.tmp 54)],none⟩])))
 (.reg [] [⟨some 31,.mov (.tmp 10),none⟩,
 ⟨some 32,.arith .sub .i64 (.tmp 31) (.cst (.d (.int .i64 1))),none⟩,
 ⟨some 10,.mov (.tmp 32),none⟩])))))))))))))⟩
def tx190:AFun:=⟨65,41,[],
 (.seq
 (.reg [] [⟨some 11,.mov (.tmp 2),none⟩,
 ⟨some 12,.mov (.tmp 1),none⟩,
 ⟨some 13,.arith .sub .i64 (.tmp 11) (.tmp 12),none⟩,
 ⟨some 6,.mov (.tmp 13),none⟩])
 (.seq
 (.reg [] [⟨some 14,.mov (.tmp 6),none⟩,
 ⟨some 15,.cmp .geq (.tmp 14) (.cst (.d (.int .i64 8))),none⟩])
 (.cond (.tmp 15)
 (.seq
 (.reg [0] [⟨some 16,.mov (.tmp 6),none⟩,
 ⟨some 17,.conv .u64 (.tmp 16),none⟩,
 ⟨some 7,.alloc 0 [(.d (.int .u64 0))],none⟩,
 ⟨none,.st 1 (.tmp 7) (.tmp 17),none⟩])
 (.seq
 (.reg [] [⟨some 18,.mov (.tmp 6),none⟩,
 ⟨some 19,.call 214 [(.tmp 18)],none⟩,
 ⟨some 8,.mov (.tmp 19),none⟩])
 (.seq
 (.reg [] [⟨some 20,.mov (.tmp 1),none⟩,
 ⟨some 21,.mov (.tmp 6),none⟩,
 ⟨some 22,.arith .quo .i64 (.tmp 21) (.cst (.d (.int .i64 4))),none⟩,
 ⟨some 23,.arith .mul .i64 (.tmp 22) (.cst (.d (.int .i64 2))),none⟩,
 ⟨some 24,.arith .add .i64 (.tmp 20) (.tmp 23),none⟩,
 ⟨some 25,.arith .sub .i64 (.tmp 24) (.cst (.d (.int .i64 1))),none⟩,
 ⟨some 9,.mov (.tmp 25),none⟩])
 (.post [] [0]
 (.block 0
 (.keep [0,1,6,7,8,9] [0]
 (.loop
 (.post [0,1,6,7,8,9] []
 (.seq
 (.seq
 (.reg [] [⟨some 26,.mov (.tmp 9),none⟩,
 ⟨some 27,.mov (.tmp 1),none⟩,
 ⟨some 28,.mov (.tmp 6),none⟩,
 ⟨some 29,.arith .quo .i64 (.tmp 28) (.cst (.d (.int .i64 4))),none⟩,
 ⟨some 30,.arith .mul .i64 (.tmp 29) (.cst (.d (.int .i64 2))),none⟩,
 ⟨some 31,.arith .add .i64 (.tmp 27) (.tmp 30),none⟩,
 ⟨some 32,.arith .add .i64 (.tmp 31) (.cst (.d (.int .i64 1))),none⟩,
 ⟨some 33,.cmp .leq (.tmp 26) (.tmp 32),none⟩])
 (.cond (.tmp 33)
 .skip
 (.exit 0)))
 (.seq
 (.block 1
 (.seq
 (.reg [] [⟨some 36,.call 215 [(.tmp 7)],none⟩,
 ⟨some 37,.mov (.tmp 8),none⟩,
 ⟨some 38,.arith .sub .u64 (.tmp 37) (.cst (.d (.int .u64 1))),none⟩,
 ⟨some 39,.bit .and .u64 (.tmp 36) (.tmp 38),none⟩,
 ⟨some 40,.conv .i64 (.tmp 39),none⟩,
 ⟨some 10,.mov (.tmp 40),none⟩])
 (.seq
 (.seq
 (.reg [] [⟨some 41,.mov (.tmp 10),none⟩,
 ⟨some 42,.mov (.tmp 6),none⟩,
 ⟨some 43,.cmp .geq (.tmp 41) (.tmp 42),none⟩])
 (.cond (.tmp 43)
 (.reg [] [⟨some 44,.mov (.tmp 10),none⟩,
 ⟨some 45,.mov (.tmp 6),none⟩,
 ⟨some 46,.arith .sub .i64 (.tmp 44) (.tmp 45),none⟩,
 ⟨some 10,.mov (.tmp 46),none⟩])
 .skip))
 (.regd [] [⟨some 47,.mov (.tmp 0),none⟩,
 ⟨some 48,.mov (.tmp 9),none⟩,
 ⟨some 49,.mov (.tmp 0),none⟩,
 ⟨some 50,.mov (.tmp 1),none⟩,
 ⟨some 51,.mov (.tmp 10),none⟩,
 ⟨some 52,.arith .add .i64 (.tmp 50) (.tmp 51),none⟩,
 ⟨some 53,.mov (.tmp 0),none⟩,
 ⟨some 54,.mov (.tmp 1),none⟩,
 ⟨some 55,.mov (.tmp 10),none⟩,
 ⟨some 56,.arith .add .i64 (.tmp 54) (.tmp 55),none⟩,
 ⟨some 57,.ixa 1 (.tmp 53) (.tmp 56),none⟩,
 ⟨some 58,.ld false 1 (.tmp 57),none⟩,
 ⟨some 59,.mov (.tmp 0),none⟩,
 ⟨some 60,.mov (.tmp 9),none⟩,
 ⟨some 61,.ixa 1 (.tmp 59) (.tmp 60),none⟩,
 ⟨some 62,.ld false 1 (.tmp 61),none⟩,
 ⟨some 63,.ixa 1 (.tmp 47) (.tmp 48),none⟩,
 ⟨none,.st 1 (.tmp 63) (.tmp 58),none⟩,
 ⟨some 64,.ixa 1 (.tmp 49) (.tmp 52),none⟩,
 ⟨none,.st 1 (.tmp 64) (.tmp 62),none⟩] [(0,1),(0,2),(1,2),(0,3),(1,3),(2,3),(0,4),(1,4),(2,4),(3,4),(0,5),(1,5),(2,5),(0,6),(1,6),(2,6),(3,6),(4,6),(5,6),(0,7),(1,7),(2,7),(3,7),(4,7),(5,7),(6,7),(0,8),(1,8),(2,8),(3,8),(4,8),(5,8),(6,8),(7,8),(0,9),(1,9),(2,9),(3,9),(4,9),(5,9),(6,9),(0,10),(1,10),(2,10),(3,10),(4,10),(5,10),(0,11),(1,11),(2,11),(3,11),(4,11),(5,11),(0,12),(1,12),(2,12),(3,12),(4,12),(5,12),(6,12),(7,12),(8,12),(9,12),(10,12),(11,12),(0,13),(1,13),(2,13),(3,13),(4,13),(5,13),(6,13),(7,13),(8,13),(9,13),(10,13),(11,13),(12,13),(0,14),(1,14),(2,14),(3,14),(4,14),(5,14),(6,14),(7,14),(8,14),(9,14),(10,14),(11,14),(0,15),(1,15),(2,15),(3,15),(4,15),(5,15),(6,15),(7,15),(8,15),(9,15),(10,15),(11,15),(2,16),(3,16),(4,16),(5,16),(2,17),(3,17),(4,17),(5,17)]))))
 (.reg [] [⟨some 34,.mov (.tmp 9),none⟩,
 ⟨some 35,.arith .add .i64 (.tmp 34) (.cst (.d (.int .i64 1))),none⟩,
 ⟨some 9,.mov (.tmp 35),none⟩])))))))))))
 .skip)))⟩
def tx191:AFun:=⟨57,41,[.tmp 6,.tmp 7],
 (.seq
 (.reg [] [⟨some 6,.mov (.cst (.d (.int .i64 0))),none⟩,
 ⟨some 7,.mov (.cst (.d (.int .i64 0))),none⟩])
 (.seq
 (.reg [] [⟨some 13,.mov (.tmp 2),none⟩,
 ⟨some 14,.mov (.tmp 1),none⟩,
 ⟨some 15,.arith .sub .i64 (.tmp 13) (.tmp 14),none⟩,
 ⟨some 8,.mov (.tmp 15),none⟩])
 (.seq
 (.reg [0] [⟨some 9,.alloc 0 [(.d (.int .i64 0))],none⟩])
 (.seq
 (.reg [] [⟨some 16,.mov (.tmp 1),none⟩,
 ⟨some 17,.mov (.tmp 8),none⟩,
 ⟨some 18,.arith .quo .i64 (.tmp 17) (.cst (.d (.int .i64 4))),none⟩,
 ⟨some 19,.arith .mul .i64 (.tmp 18) (.cst (.d (.int .i64 1))),none⟩,
 ⟨some 20,.arith .add .i64 (.tmp 16) (.tmp 19),none⟩,
 ⟨some 10,.mov (.tmp 20),none⟩])
 (.seq
 (.reg [] [⟨some 21,.mov (.tmp 1),none⟩,
 ⟨some 22,.mov (.tmp 8),none⟩,
 ⟨some 23,.arith .quo .i64 (.tmp 22) (.cst (.d (.int .i64 4))),none⟩,
 ⟨some 24,.arith .mul .i64 (.tmp 23) (.cst (.d (.int .i64 2))),none⟩,
 ⟨some 25,.arith .add .i64 (.tmp 21) (.tmp 24),none⟩,
 ⟨some 11,.mov (.tmp 25),none⟩])
 (.seq
 (.reg [] [⟨some 26,.mov (.tmp 1),none⟩,
 ⟨some 27,.mov (.tmp 8),none⟩,
 ⟨some 28,.arith .quo .i64 (.tmp 27) (.cst (.d (.int .i64 4))),none⟩,
 ⟨some 29,.arith .mul .i64 (.tmp 28) (.cst (.d (.int .i64 3))),none⟩,
 ⟨some 30,.arith .add .i64 (.tmp 26) (.tmp 29),none⟩,
 ⟨some 12,.mov (.tmp 30),none⟩])
 (.seq
 (.seq
 (.reg [] [⟨some 31,.mov (.tmp 8),none⟩,
 ⟨some 32,.cmp .geq (.tmp 31) (.cst (.d (.int .i64 8))),none⟩])
 (.cond (.tmp 32)
 (.seq
 (.seq
 (.reg [] [⟨some 33,.mov (.tmp 8),none⟩,
 ⟨some 34,.cmp .geq (.tmp 33) (.cst (.d (.int .i64 50))),none⟩])
 (.cond (.tmp 34)
 (.seq
 (.reg [] [⟨some 35,.mov (.tmp 0),none⟩,
 ⟨some 36,.mov (.tmp 10),none⟩,
 ⟨some 37,.calli 216 [(.tmp 35),(.tmp 36),(.tmp 9)],none⟩,
 ⟨some 10,.mov (.tmp 37),none⟩])
 (.seq
 (.reg [] [⟨some 38,.mov (.tmp 0),none⟩,
 ⟨some 39,.mov (.tmp 11),none⟩,
 ⟨some 40,.calli 216 [(.tmp 38),(.tmp 39),(.tmp 9)],none⟩,
 ⟨some 11,.mov (.tmp 40),none⟩])
 (.reg [] [⟨some 41,.mov (.tmp 0),none⟩,
 ⟨some 42,.mov (.tmp 12),none⟩,
 ⟨some 43,.calli 216 [(.tmp 41),(.tmp 42),(.tmp 9)],none⟩,
 ⟨some 12,.mov (.tmp 43),none⟩])))
 .skip))
 (.reg [] [⟨some 44,.mov (.tmp 0),none⟩,
 ⟨some 45,.mov (.tmp 10),none⟩,
 ⟨some 46,.mov (.tmp 11),none⟩,
 ⟨some 47,.mov (.tmp 12),none⟩,
 ⟨some 48,.calli 217 [(.tmp 44),(.tmp 45),(.tmp 46),(.tmp 47),(.tmp 9)],none⟩,
 ⟨some 11,.mov (.tmp 48),none⟩]))
 .skip))
 (.seq
 (.reg [] [⟨some 49,.ld false 1 (.tmp 9),none⟩])
 (.block 0
 (.seq
 (.reg [] [⟨some 52,.cmp .eql (.tmp 49) (.cst (.d (.int .i64 0))),none⟩,
 ⟨some 51,.mov (.tmp 52),none⟩])
 (.cond (.tmp 51)
 (.seq
 (.reg [] [⟨some 53,.mov (.tmp 11),none⟩,
 ⟨some 6,.mov (.tmp 53),none⟩,
 ⟨some 7,.mov (.cst (.d (.int .i64 1))),none⟩])
 .ret)
 (.seq
 (.reg [] [⟨some 55,.cmp .eql (.tmp 49) (.cst (.d (.int .i64 12))),none⟩,
 ⟨some 54,.mov (.tmp 55),none⟩])
 (.cond (.tmp 54)
 (.seq
 (.reg [] [⟨some 56,.mov (.tmp 11),none⟩,
 ⟨some 6,.mov (.tmp 56),none⟩,
 ⟨some 7,.mov (.cst (.d (.int .i64 2))),none⟩])
 .ret)
 (.seq
 (.reg [] [⟨some 50,.mov (.tmp 11),none⟩,
 ⟨some 6,.mov (.tmp 50),none⟩,
 ⟨some 7,.mov (.cst (.d (.int .i64 0))),none⟩])
 .ret))))))))))))))⟩
def tx192:AFun:=⟨32,40,[],
 (.seq
 (.reg [] [⟨some 8,.mov (.tmp 1),none⟩,
 ⟨some 6,.mov (.tmp 8),none⟩])
 (.seq
 (.reg [] [⟨some 9,.mov (.tmp 2),none⟩,
 ⟨some 10,.arith .sub .i64 (.tmp 9) (.cst (.d (.int .i64 1))),none⟩,
 ⟨some 7,.mov (.tmp 10),none⟩])
 (.post [] []
 (.block 0
 (.keep [0,6,7] []
 (.loop
 (.post [0,6,7] []
 (.seq
 (.seq
 (.reg [] [⟨some 11,.mov (.tmp 6),none⟩,
 ⟨some 12,.mov (.tmp 7),none⟩,
 ⟨some 13,.cmp .lss (.tmp 11) (.tmp 12),none⟩])
 (.cond (.tmp 13)
 .skip
 (.exit 0)))
 (.block 1
 (.seq
 (.regd [] [⟨some 14,.mov (.tmp 0),none⟩,
 ⟨some 15,.mov (.tmp 6),none⟩,
 ⟨some 16,.mov (.tmp 0),none⟩,
 ⟨some 17,.mov (.tmp 7),none⟩,
 ⟨some 18,.mov (.tmp 0),none⟩,
 ⟨some 19,.mov (.tmp 7),none⟩,
 ⟨some 20,.ixa 1 (.tmp 18) (.tmp 19),none⟩,
 ⟨some 21,.ld false 1 (.tmp 20),none⟩,
 ⟨some 22,.mov (.tmp 0),none⟩,
 ⟨some 23,.mov (.tmp 6),none⟩,
 ⟨some 24,.ixa 1 (.tmp 22) (.tmp 23),none⟩,
 ⟨some 25,.ld false 1 (.tmp 24),none⟩,
 ⟨some 26,.ixa 1 (.tmp 14) (.tmp 15),none⟩,
 ⟨none,.st 1 (.tmp 26) (.tmp 21),none⟩,
 ⟨some 27,.ixa 1 (.tmp 16) (.tmp 17),none⟩,
 ⟨none,.st 1 (.tmp 27) (.tmp 25),none⟩] [(0,1),(0,2),(1,2),(0,3),(1,3),(2,3),(0,4),(1,4),(2,4),(3,4),(0,5),(1,5),(2,5),(3,5),(4,5),(0,6),(1,6),(2,6),(3,6),(0,7),(1,7),(2,7),(3,7),(0,8),(1,8),(2,8),(3,8),(4,8),(5,8),(6,8),(7,8),(0,9),(1,9),(2,9),(3,9),(4,9),(5,9),(6,9),(7,9),(8,9),(0,10),(1,10),(2,10),(3,10),(4,10),(5,10),(6,10),(7,10),(0,11),(1,11),(2,11),(3,11),(4,11),(5,11),(6,11),(7,11),(2,12),(3,12),(2,13),(3,13)])
 (.seq
 (.reg [] [⟨some 28,.mov (.tmp 6),none⟩,
 ⟨some 29,.arith .add .i64 (.tmp 28) (.cst (.d (.int .i64 1))),none⟩,
 ⟨some 6,.mov (.tmp 29),none⟩])
 (.reg [] [⟨some 30,.mov (.tmp 7),none⟩,
 ⟨some 31,.arith .sub .i64 (.tmp 30) (.cst (.d (.int .i64 1))),none⟩,
 ⟨some 7,.mov (.tmp 31),none⟩]))))))))))))⟩
def tx193:AFun:=⟨133,40,[.tmp 6],
 (.seq
 (.reg [] [⟨some 6,.mov (.cst (.d (.bool false))),none⟩])
 (.seq
 (.reg [] [⟨some 11,.mov (.tmp 1),none⟩,
 ⟨some 12,.arith .add .i64 (.tmp 11) (.cst (.d (.int .i64 1))),none⟩,
 ⟨some 7,.mov (.tmp 12),none⟩])
 (.seq
 (.seq
 (.reg [] [⟨some 8,.mov (.cst (.d (.int .i64 0))),none⟩])
 (.post [] []
 (.block 0
 (.keep [0,1,2,7,8] []
 (.loop
 (.post [0,1,2,7,8] []
 (.seq
 (.seq
 (.reg [] [⟨some 13,.mov (.tmp 8),none⟩,
 ⟨some 14,.cmp .lss (.tmp 13) (.cst (.d (.int .i64 5))),none⟩])
 (.cond (.tmp 14)
 .skip
 (.exit 0)))
 (.seq
 (.block 1
 (.seq
 (.post [0,1,2,7,8] []
 (.block 2
 (.keep [0,1,2,7,8] []
 (.loop
 (.post [0,1,2,7,8] []
 (.seq
 (.seq
 (.regd [] [⟨some 17,.mov (.tmp 7),none⟩,
 ⟨some 18,.mov (.tmp 2),none⟩,
 ⟨some 19,.cmp .lss (.tmp 17) (.tmp 18),none⟩,
 ⟨some 20,.mov (.tmp 19),none⟩,
 ⟨some 21,.mov (.tmp 0),some (20,true)⟩,
 ⟨some 22,.mov (.tmp 7),some (20,true)⟩,
 ⟨some 23,.ixa 1 (.tmp 21) (.tmp 22),some (20,true)⟩,
 ⟨some 24,.ld false 1 (.tmp 23),some (20,true)⟩,
 ⟨some 25,.mov (.tmp 0),some (20,true)⟩,
 ⟨some 26,.mov (.tmp 7),some (20,true)⟩,
 ⟨some 27,.arith .sub .i64 (.tmp 26) (.cst (.d (.int .i64 1))),some (20,true)⟩,
 ⟨some 28,.ixa 1 (.tmp 25) (.tmp 27),some (20,true)⟩,
 ⟨some 29,.ld false 1 (.tmp 28),some (20,true)⟩,
 ⟨some 30,.call 194 [(.tmp 24),(.tmp 29)],some (20,true)⟩,
 ⟨some 31,.not (.tmp 30),some (20,true)⟩,
 ⟨some 32,.pick (.tmp 20) (.tmp 31) (.cst (.d (.bool false))),none⟩] [(0,1),(4,5),(4,8),(5,8),(6,8),(7,8),(4,9),(5,9),(6,9),(7,9),(8,9),(4,10),(5,10),(6,10),(7,10),(8,10),(4,11),(5,11),(6,11),(7,11),(4,12),(5,12),(6,12),(7,12)])
 (.cond (.tmp 32)
 .skip
 (.exit 2)))
 (.block 3
 (.reg [] [⟨some 33,.mov (.tmp 7),none⟩,
 ⟨some 34,.arith .add .i64 (.tmp 33) (.cst (.d (.int .i64 1))),none⟩,
 ⟨some 7,.mov (.tmp 34),none⟩]))))))))
 (.seq
 (.seq
 (.reg [] [⟨some 35,.mov (.tmp 7),none⟩,
 ⟨some 36,.mov (.tmp 2),none⟩,
 ⟨some 37,.cmp .eql (.tmp 35) (.tmp 36),none⟩])
 (.cond (.tmp 37)
 (.seq
 (.reg [] [⟨some 6,.mov (.cst (.d (.bool true))),none⟩])
 .ret)
 .skip))
 (.seq
 (.seq
 (.reg [] [⟨some 38,.mov (.tmp 2),none⟩,
 ⟨some 39,.mov (.tmp 1),none⟩,
 ⟨some 40,.arith .sub .i64 (.tmp 38) (.tmp 39),none⟩,
 ⟨some 41,.cmp .lss (.tmp 40) (.cst (.d (.int .i64 50))),none⟩])
 (.cond (.tmp 41)
 (.seq
 (.reg [] [⟨some 6,.mov (.cst (.d (.bool false))),none⟩])
 .ret)
 .skip))
 (.seq
 (.regd [] [⟨some 42,.mov (.tmp 0),none⟩,
 ⟨some 43,.mov (.tmp 7),none⟩,
 ⟨some 44,.mov (.tmp 0),none⟩,
 ⟨some 45,.mov (.tmp 7),none⟩,
 ⟨some 46,.arith .sub .i64 (.tmp 45) (.cst (.d (.int .i64 1))),none⟩,
 ⟨some 47,.mov (.tmp 0),none⟩,
 ⟨some 48,.mov (.tmp 7),none⟩,
 ⟨some 49,.arith .sub .i64 (.tmp 48) (.cst (.d (.int .i64 1))),none⟩,
 ⟨some 50,.ixa 1 (.tmp 47) (.tmp 49),none⟩,
 ⟨some 51,.ld false 1 (.tmp 50),none⟩,
 ⟨some 52,.mov (.tmp 0),none⟩,
 ⟨some 53,.mov (.tmp 7),none⟩,
 ⟨some 54,.ixa 1 (.tmp 52) (.tmp 53),none⟩,
 ⟨some 55,.ld false 1 (.tmp 54),none⟩,
 ⟨some 56,.ixa 1 (.tmp 42) (.tmp 43),none⟩,
 ⟨none,.st 1 (.tmp 56) (.tmp 51),none⟩,
 ⟨some 57,.ixa 1 (.tmp 44) (.tmp 46),none⟩,
 ⟨none,.st 1 (.tmp 57) (.tmp 55),none⟩] [(0,1),(0,2),(1,2),(0,3),(1,3),(2,3),(0,4),(1,4),(2,4),(0,5),(1,5),(2,5),(3,5),(4,5),(0,6),(1,6),(2,6),(3,6),(4,6),(5,6),(0,7),(1,7),(2,7),(3,7),(4,7),(5,7),(0,8),(1,8),(2,8),(3,8),(4,8),(0,9),(1,9),(2,9),(3,9),(4,9),(0,10),(1,10),(2,10),(3,10),(4,10),(5,10),(6,10),(7,10),(8,10),(9,10),(0,11),(1,11),(2,11),(3,11),(4,11),(5,11),(6,11),(7,11),(8,11),(9,11),(10,11),(0,12),(1,12),(2,12),(3,12),(4,12),(5,12),(6,12),(7,12),(8,12),(9,12),(0,13),(1,13),(2,13),(3,13),(4,13),(5,13),(6,13),(7,13),(8,13),(9,13),(2,14),(3,14),(4,14),(2,15),(3,15),(4,15)])
 (.seq
 (.seq
 (.reg [] [⟨some 58,.mov (.tmp 7),none⟩,
 ⟨some 59,.mov (.tmp 1),none⟩,
 ⟨some 60,.arith .sub .i64 (.tmp 58) (.tmp 59),none⟩,
 ⟨some 61,.cmp .geq (.tmp 60) (.cst (.d (.int .i64 2))),none⟩])
 (.cond (.tmp 61)
 (.seq
 (.reg [] [⟨some 62,.mov (.tmp 7),none⟩,
 ⟨some 63,.arith .sub .i64 (.tmp 62) (.cst (.d (.int .i64 1))),none⟩,
 ⟨some 9,.mov (.tmp 63),none⟩])
 (.post [0,1,2,7,8] []
 (.block 4
 (.keep [0,1,2,7,8,9] []
 (.loop
 (.post [0,1,2,7,8,9] []
 (.seq
 (.seq
 (.reg [] [⟨some 64,.mov (.tmp 9),none⟩,
 ⟨some 65,.cmp .geq (.tmp 64) (.cst (.d (.int .i64 1))),none⟩])
 (.cond (.tmp 65)
 .skip
 (.exit 4)))
 (.seq
 (.block 5
 (.seq
 (.seq
 (.regd [] [⟨some 68,.mov (.tmp 0),none⟩,
 ⟨some 69,.mov (.tmp 9),none⟩,
 ⟨some 70,.ixa 1 (.tmp 68) (.tmp 69),none⟩,
 ⟨some 71,.ld false 1 (.tmp 70),none⟩,
 ⟨some 72,.mov (.tmp 0),none⟩,
 ⟨some 73,.mov (.tmp 9),none⟩,
 ⟨some 74,.arith .sub .i64 (.tmp 73) (.cst (.d (.int .i64 1))),none⟩,
 ⟨some 75,.ixa 1 (.tmp 72) (.tmp 74),none⟩,
 ⟨some 76,.ld false 1 (.tmp 75),none⟩,
 ⟨some 77,.call 194 [(.tmp 71),(.tmp 76)],none⟩,
 ⟨some 78,.not (.tmp 77),none⟩] [(0,1),(0,4),(1,4),(2,4),(3,4),(0,5),(1,5),(2,5),(3,5),(4,5),(0,6),(1,6),(2,6),(3,6),(4,6),(0,7),(1,7),(2,7),(3,7),(0,8),(1,8),(2,8),(3,8)])
 (.cond (.tmp 78)
 (.exit 4)
 .skip))
 (.regd [] [⟨some 79,.mov (.tmp 0),none⟩,
 ⟨some 80,.mov (.tmp 9),none⟩,
 ⟨some 81,.mov (.tmp 0),none⟩,
 ⟨some 82,.mov (.tmp 9),none⟩,
 ⟨some 83,.arith .sub .i64 (.tmp 82) (.cst (.d (.int .i64 1))),none⟩,
 ⟨some 84,.mov (.tmp 0),none⟩,
 ⟨some 85,.mov (.tmp 9),none⟩,
 ⟨some 86,.arith .sub .i64 (.tmp 85) (.cst (.d (.int .i64 1))),none⟩,
 ⟨some 87,.ixa 1 (.tmp 84) (.tmp 86),none⟩,
 ⟨some 88,.ld false 1 (.tmp 87),none⟩,
 ⟨some 89,.mov (.tmp 0),none⟩,
 ⟨some 90,.mov (.tmp 9),none⟩,
 ⟨some 91,.ixa 1 (.tmp 89) (.tmp 90),none⟩,
 ⟨some 92,.ld false 1 (.tmp 91),none⟩,
 ⟨some 93,.ixa 1 (.tmp 79) (.tmp 80),none⟩,
 ⟨none,.st 1 (.tmp 93) (.tmp 88),none⟩,
 ⟨some 94,.ixa 1 (.tmp 81) (.tmp 83),none⟩,
 ⟨none,.st 1 (.tmp 94) (.tmp 92),none⟩] [(0,1),(0,2),(1,2),(0,3),(1,3),(2,3),(0,4),(1,4),(2,4),(0,5),(1,5),(2,5),(3,5),(4,5),(0,6),(1,6),(2,6),(3,6),(4,6),(5,6),(0,7),(1,7),(2,7),(3,7),(4,7),(5,7),(0,8),(1,8),(2,8),(3,8),(4,8),(0,9),(1,9),(2,9),(3,9),(4,9),(0,10),(1,10),(2,10),(3,10),(4,10),(5,10),(6,10),(7,10),(8,10),(9,10),(0,11),(1,11),(2,11),(3,11),(4,11),(5,11),(6,11),(7,11),(8,11),(9,11),(10,11),(0,12),(1,12),(2,12),(3,12),(4,12),(5,12),(6,12),(7,12),(8,12),(9,12),(0,13),(1,13),(2,13),(3,13),(4,13),(5,13),(6,13),(7,13),(8,13),(9,13),(2,14),(3,14),(4,14),(2,15),(3,15),(4,15)])))
 (.reg [] [⟨some 66,.mov (.tmp 9),none⟩,
 ⟨some 67,.arith .sub .i64 (.tmp 66) (.cst (.d (.int .i64 1))),none⟩,
 ⟨some 9,.mov (.tmp 67),none⟩])))))))))
 .skip))
 (.seq
 (.reg [] [⟨some 95,.mov (.tmp 2),none⟩,
 ⟨some 96,.mov (.tmp 7),none⟩,
 ⟨some 97,.arith .sub .i64 (.tmp 95) (.tmp 96),none⟩,
 ⟨some 98,.cmp .geq (.tmp 97) (.cst (.d (.int .i64 2))),none⟩])
 (.cond (.tmp 98)
 (.seq
 (.reg [] [⟨some 99,.mov (.tmp 7),none⟩,
 ⟨some 100,.arith .add .i64 (.tmp 99) (.cst (.d (.int .i64 1))),none⟩,
 ⟨some 10,.mov (.tmp 100),none⟩])
 (.post [0,1,2,7,8] []
 (.block 6
 (.keep [0,1,2,7,8,10] []
 (.loop
 (.post [0,1,2,7,8,10] []
 (.seq
 (.seq
 (.reg [] [⟨some 101,.mov (.tmp 10),none⟩,
 ⟨some 102,.mov (.tmp 2),none⟩,
 ⟨some 103,.cmp .lss (.tmp 101) (.tmp 102),none⟩])
 (.cond (.tmp 103)
 .skip
 (.exit 6)))
 (.seq
 (.block 7
 (.seq
 (.seq
 (.regd [] [⟨some 106,.mov (.tmp 0),none⟩,
 ⟨some 107,.mov (.tmp 10),none⟩,
 ⟨some 108,.ixa 1 (.tmp 106) (.tmp 107),none⟩,
 ⟨some 109,.ld false 1 (.tmp 108),none⟩,
 ⟨some 110,.mov (.tmp 0),none⟩,
 ⟨some 111,.mov (.tmp 10),none⟩,
 ⟨some 112,.arith .sub .i64 (.tmp 111) (.cst (.d (.int .i64 1))),none⟩,
 ⟨some 113,.ixa 1 (.tmp 110) (.tmp 112),none⟩,
 ⟨some 114,.ld false 1 (.tmp 113),none⟩,
 ⟨some 115,.call 194 [(.tmp 109),(.tmp 114)],none⟩,
 ⟨some 116,.not (.tmp 115),none⟩] [(0,1),(0,4),(1,4),(2,4),(3,4),(0,5),(1,5),(2,5),(3,5),(4,5),(0,6),(1,6),(2,6),(3,6),(4,6),(0,7),(1,7),(2,7),(3,7),(0,8),(1,8),(2,8),(3,8)])
 (.cond (.tmp 116)
 (.exit 6)
 .skip))
 (.regd [] [⟨some 117,.mov (.tmp 0),none⟩,
 ⟨some 118,.mov (.tmp 10),none⟩,
 ⟨some 119,.mov (.tmp 0),none⟩,
 ⟨some 120,.mov (.tmp 10),none⟩,
 ⟨some 121,.arith .sub .i64 (.tmp 120) (.cst (.d (.int .i64 1))),none⟩,
 ⟨some 122,.mov (.tmp 0),none⟩,
 ⟨some 123,.mov (.tmp 10),none⟩,
 ⟨some 124,.arith .sub .i64 (.tmp 123) (.cst (.d (.int .i64 1))),none⟩,
 ⟨some 125,.ixa 1 (.tmp 122) (.tmp 124),none⟩,
 ⟨some 126,.ld false 1 (.tmp 125),none⟩,
 ⟨some 127,.mov (.tmp 0),none⟩,
 ⟨some 128,.mov (.tmp 10),none⟩,
 ⟨some 129,.ixa 1 (.tmp 127) (.tmp 128),none⟩,
 ⟨some 130,.ld false 1 (.tmp 129),none⟩,
 ⟨some 131,.ixa 1 (.tmp 117) (.tmp 118),none⟩,
 ⟨none,.st 1 (.tmp 131) (.tmp 126),none⟩,
 ⟨some 132,.ixa 1 (.tmp 119) (.tmp 121),none⟩,
 ⟨none,.st 1 (.tmp 132) (.tmp 130),none⟩] [(0,1),(0,2),(1,2),(0,3),(1,3),(2,3),(0,4),(1,4),(2,4),(0,5),(1,5),(2,5),(3,5),(4,5),(0,6),(1,6),(2,6),(3,6),(4,6),(5,6),(0,7),(1,7),(2,7),(3,7),(4,7),(5,7),(0,8),(1,8),(2,8),(3,8),(4,8),(0,9),(1,9),(2,9),(3,9),(4,9),(0,10),(1,10),(2,10),(3,10),(4,10),(5,10),(6,10),(7,10),(8,10),(9,10),(0,11),(1,11),(2,11),(3,11),(4,11),(5,11),(6,11),(7,11),(8,11),(9,11),(10,11),(0,12),(1,12),(2,12),(3,12),(4,12),(5,12),(6,12),(7,12),(8,12),(9,12),(0,13),(1,13),(2,13),(3,13),(4,13),(5,13),(6,13),(7,13),(8,13),(9,13),(2,14),(3,14),(4,14),(2,15),(3,15),(4,15)])))
 (.reg [] [⟨some 104,.mov (.tmp 10),none⟩,
 ⟨some 105,.arith .add .i64 (.tmp 104) (.cst (.d (.int .i64 1))),none⟩,
 ⟨some 10,.mov (.tmp 105),none⟩])))))))))
 .skip))))))))
 (.reg [] [⟨some 15,.mov (.tmp 8),none⟩,
 ⟨some 16,.arith .add .i64 (.tmp 15) (.cst (.d (.int .i64 1))),none⟩,
 ⟨some 8,.mov (.tmp 16),none⟩])))))))))
 (.seq
 (.reg [] [⟨some 6,.mov (.cst (.d (.bool false))),none⟩])
 .ret))))⟩
def tx194:AFun:=⟨17,40,[.tmp 4],
 (.seq
 (.reg [] [⟨some 4,.mov (.cst (.d (.bool false))),none⟩])
 (.seq
 (.reg [] [⟨some 5,.mov (.tmp 0),none⟩,
 ⟨some 6,.call 209 [(.tmp 5)],none⟩,
 ⟨some 7,.mov (.tmp 6),none⟩,
 ⟨some 8,.mov (.tmp 1),some (7,true)⟩,
 ⟨some 9,.call 209 [(.tmp 8)],some (7,true)⟩,
 ⟨some 10,.not (.tmp 9),some (7,true)⟩,
 ⟨some 11,.pick (.tmp 7) (.tmp 10) (.cst (.d (.bool false))),none⟩,
 ⟨some 12,.mov (.tmp 11),none⟩,
 ⟨some 13,.mov (.tmp 0),some (12,false)⟩,
 ⟨some 14,.mov (.tmp 1),some (12,false)⟩,
 ⟨some 15,.cmp .lss (.tmp 13) (.tmp 14),some (12,false)⟩,
 ⟨some 16,.pick (.tmp 12) (.cst (.d (.bool true))) (.tmp 15),none⟩,
 ⟨some 4,.mov (.tmp 16),none⟩])
 .ret))⟩
def tx195:AFun:=⟨84,40,[.tmp 8],
 (.seq
 (.reg [] [⟨some 8,.mov (.cst (.d (.int .i64 0))),none⟩])
 (.seq
 (.regd [] [⟨some 11,.mov (.tmp 0),none⟩,
 ⟨some 12,.mov (.tmp 1),none⟩,
 ⟨some 13,.mov (.tmp 0),none⟩,
 ⟨some 14,.mov (.tmp 3),none⟩,
 ⟨some 15,.mov (.tmp 0),none⟩,
 ⟨some 16,.mov (.tmp 3),none⟩,
 ⟨some 17,.ixa 1 (.tmp 15) (.tmp 16),none⟩,
 ⟨some 18,.ld false 1 (.tmp 17),none⟩,
 ⟨some 19,.mov (.tmp 0),none⟩,
 ⟨some 20,.mov (.tmp 1),none⟩,
 ⟨some 21,.ixa 1 (.tmp 19) (.tmp 20),none⟩,
 ⟨some 22,.ld false 1 (.tmp 21),none⟩,
 ⟨some 23,.ixa 1 (.tmp 11) (.tmp 12),none⟩,
 ⟨none,.st 1 (.tmp 23) (.tmp 18),none⟩,
 ⟨some 24,.ixa 1 (.tmp 13) (.tmp 14),none⟩,
 ⟨none,.st 1 (.tmp 24) (.tmp 22),none⟩] [(0,1),(0,2),(1,2),(0,3),(1,3),(2,3),(0,4),(1,4),(2,4),(3,4),(0,5),(1,5),(2,5),(3,5),(4,5),(0,6),(1,6),(2,6),(3,6),(0,7),(1,7),(2,7),(3,7),(0,8),(1,8),(2,8),(3,8),(4,8),(5,8),(6,8),(7,8),(0,9),(1,9),(2,9),(3,9),(4,9),(5,9),(6,9),(7,9),(8,9),(0,10),(1,10),(2,10),(3,10),(4,10),(5,10),(6,10),(7,10),(0,11),(1,11),(2,11),(3,11),(4,11),(5,11),(6,11),(7,11),(2,12),(3,12),(2,13),(3,13)])
 (.seq
 (.reg [] [⟨some 25,.mov (.tmp 1),none⟩,
 ⟨some 26,.arith .add .i64 (.tmp 25) (.cst (.d (.int .i64 1))),none⟩,
 ⟨some 27,.mov (.tmp 2),none⟩,
 ⟨some 28,.arith .sub .i64 (.tmp 27) (.cst (.d (.int .i64 1))),none⟩,
 ⟨some 9,.mov (.tmp 26),none⟩,
 ⟨some 10,.mov (.tmp 28),none⟩])
 (.seq
 (.post [9] []
 (.block 0
 (.keep [0,1,9,10] []
 (.loop
 (.post [0,1,9,10] []
 (.block 1
 (.seq
 (.post [0,1,9,10] []
 (.block 2
 (.keep [0,1,9,10] []
 (.loop
 (.post [0,1,9,10] []
 (.seq
 (.seq
 (.regd [] [⟨some 29,.mov (.tmp 9),none⟩,
 ⟨some 30,.mov (.tmp 10),none⟩,
 ⟨some 31,.cmp .leq (.tmp 29) (.tmp 30),none⟩,
 ⟨some 32,.mov (.tmp 31),none⟩,
 ⟨some 33,.mov (.tmp 0),some (32,true)⟩,
 ⟨some 34,.mov (.tmp 1),some (32,true)⟩,
 ⟨some 35,.ixa 1 (.tmp 33) (.tmp 34),some (32,true)⟩,
 ⟨some 36,.ld false 1 (.tmp 35),some (32,true)⟩,
 ⟨some 37,.mov (.tmp 0),some (32,true)⟩,
 ⟨some 38,.mov (.tmp 9),some (32,true)⟩,
 ⟨some 39,.ixa 1 (.tmp 37) (.tmp 38),some (32,true)⟩,
 ⟨some 40,.ld false 1 (.tmp 39),some (32,true)⟩,
 ⟨some 41,.call 194 [(.tmp 36),(.tmp 40)],some (32,true)⟩,
 ⟨some 42,.not (.tmp 41),some (32,true)⟩,
 ⟨some 43,.pick (.tmp 32) (.tmp 42) (.cst (.d (.bool false))),none⟩] [(0,1),(4,5),(4,8),(5,8),(6,8),(7,8),(4,9),(5,9),(6,9),(7,9),(8,9),(4,10),(5,10),(6,10),(7,10),(4,11),(5,11),(6,11),(7,11)])
 (.cond (.tmp 43)
 .skip
 (.exit 2)))
 (.block 3
 (.reg [] [⟨some 44,.mov (.tmp 9),none⟩,
 ⟨some 45,.arith .add .i64 (.tmp 44) (.cst (.d (.int .i64 1))),none⟩,
 ⟨some 9,.mov (.tmp 45),none⟩]))))))))
 (.seq
 (.post [0,1,9,10] []
 (.block 4
 (.keep [0,1,9,10] []
 (.loop
 (.post [0,1,9,10] []
 (.seq
 (.seq
 (.regd [] [⟨some 46,.mov (.tmp 9),none⟩,
 ⟨some 47,.mov (.tmp 10),none⟩,
 ⟨some 48,.cmp .leq (.tmp 46) (.tmp 47),none⟩,
 ⟨some 49,.mov (.tmp 48),none⟩,
 ⟨some 50,.mov (.tmp 0),some (49,true)⟩,
 ⟨some 51,.mov (.tmp 1),some (49,true)⟩,
 ⟨some 52,.ixa 1 (.tmp 50) (.tmp 51),some (49,true)⟩,
 ⟨some 53,.ld false 1 (.tmp 52),some (49,true)⟩,
 ⟨some 54,.mov (.tmp 0),some (49,true)⟩,
 ⟨some 55,.mov (.tmp 10),some (49,true)⟩,
 ⟨some 56,.ixa 1 (.tmp 54) (.tmp 55),some (49,true)⟩,
 ⟨some 57,.ld false 1 (.tmp 56),some (49,true)⟩,
 ⟨some 58,.call 194 [(.tmp 53),(.tmp 57)],some (49,true)⟩,
 ⟨some 59,.pick (.tmp 49) (.tmp 58) (.cst (.d (.bool false))),none⟩] [(0,1),(4,5),(4,8),(5,8),(6,8),(7,8),(4,9),(5,9),(6,9),(7,9),(8,9),(4,10),(5,10),(6,10),(7,10),(4,11),(5,11),(6,11),(7,11)])
 (.cond (.tmp 59)
 .skip
 (.exit 4)))
 (.block 5
 (.reg [] [⟨some 60,.mov (.tmp 10),none⟩,
 ⟨some 61,.arith .sub .i64 (.tmp 60) (.cst (.d (.int .i64 1))),none⟩,
 ⟨some 10,.mov (.tmp 61),none⟩]))))))))
 (.seq
 (.seq
 (.reg [] [⟨some 62,.mov (.tmp 9),none⟩,
 ⟨some 63,.mov (.tmp 10),none⟩,
 ⟨some 64,.cmp .gtr (.tmp 62) (.tmp 63),none⟩])
 (.cond (.tmp 64)
 (.exit 0)
 .skip))
 (.seq
 (.regd [] [⟨some 65,.mov (.tmp 0),none⟩,
 ⟨some 66,.mov (.tmp 9),none⟩,
 ⟨some 67,.mov (.tmp 0),none⟩,
 ⟨some 68,.mov (.tmp 10),none⟩,
 ⟨some 69,.mov (.tmp 0),none⟩,
 ⟨some 70,.mov (.tmp 10),none⟩,
 ⟨some 71,.ixa 1 (.tmp 69) (.tmp 70),none⟩,
 ⟨some 72,.ld false 1 (.tmp 71),none⟩,
 ⟨some 73,.mov (.tmp 0),none⟩,
 ⟨some 74,.mov (.tmp 9),none⟩,
 ⟨some 75,.ixa 1 (.tmp 73) (.tmp 74),none⟩,
 ⟨some 76,.ld false 1 (.tmp 75),none⟩,
 ⟨some 77,.ixa 1 (.tmp 65) (.tmp 66),none⟩,
 ⟨none,.st 1 (.tmp 77) (.tmp 72),none⟩,
 ⟨some 78,.ixa 1 (.tmp 67) (.tmp 68),none⟩,
 ⟨none,.st 1 (.tmp 78) (.tmp 76),none⟩] [(0,1),(0,2),(1,2),(0,3),(1,3),(2,3),(0,4),(1,4),(2,4),(3,4),(0,5),(1,5),(2,5),(3,5),(4,5),(0,6),(1,6),(2,6),(3,6),(0,7),(1,7),(2,7),(3,7),(0,8),(1,8),(2,8),(3,8),(4,8),(5,8),(6,8),(7,8),(0,9),(1,9),(2,9),(3,9),(4,9),(5,9),(6,9),(7,9),(8,9),(0,10),(1,10),(2,10),(3,10),(4,10),(5,10),(6,10),(7,10),(0,11),(1,11),(2,11),(3,11),(4,11),(5,11),(6,11),(7,11),(2,12),(3,12),(2,13),(3,13)])
 (.seq
 (.reg [] [⟨some 79,.mov (.tmp 9),none⟩,
 ⟨some 80,.arith .add .i64 (.tmp 79) (.cst (.d (.int .i64 1))),none⟩,
 ⟨some 9,.mov (.tmp 80),none⟩])
 (.reg [] [⟨some 81,.mov (.tmp 10),none⟩,
 ⟨some 82,.arith .sub .i64 (.tmp 81) (.cst (.d (.int .i64 1))),none⟩,
 ⟨some 10,.mov (.tmp 82),none⟩]))))))))))))
 (.seq
 (.reg [] [⟨some 83,.mov (.tmp 9),none⟩,
 ⟨some 8,.mov (.tmp 83),none⟩])
 .ret)))))⟩
def tx196:AFun:=⟨168,40,[.tmp 8,.tmp 9],
 (.seq
 (.reg [] [⟨some 8,.mov (.cst (.d (.int .i64 0))),none⟩,
 ⟨some 9,.mov (.cst (.d (.bool false))),none⟩])
 (.seq
 (.regd [] [⟨some 12,.mov (.tmp 0),none⟩,
 ⟨some 13,.mov (.tmp 1),none⟩,
 ⟨some 14,.mov (.tmp 0),none⟩,
 ⟨some 15,.mov (.tmp 3),none⟩,
 ⟨some 16,.mov (.tmp 0),none⟩,
 ⟨some 17,.mov (.tmp 3),none⟩,
 ⟨some 18,.ixa 1 (.tmp 16) (.tmp 17),none⟩,
 ⟨some 19,.ld false 1 (.tmp 18),none⟩,
 ⟨some 20,.mov (.tmp 0),none⟩,
 ⟨some 21,.mov (.tmp 1),none⟩,
 ⟨some 22,.ixa 1 (.tmp 20) (.tmp 21),none⟩,
 ⟨some 23,.ld false 1 (.tmp 22),none⟩,
 ⟨some 24,.ixa 1 (.tmp 12) (.tmp 13),none⟩,
 ⟨none,.st 1 (.tmp 24) (.tmp 19),none⟩,
 ⟨some 25,.ixa 1 (.tmp 14) (.tmp 15),none⟩,
 ⟨none,.st 1 (.tmp 25) (.tmp 23),none⟩] [(0,1),(0,2),(1,2),(0,3),(1,3),(2,3),(0,4),(1,4),(2,4),(3,4),(0,5),(1,5),(2,5),(3,5),(4,5),(0,6),(1,6),(2,6),(3,6),(0,7),(1,7),(2,7),(3,7),(0,8),(1,8),(2,8),(3,8),(4,8),(5,8),(6,8),(7,8),(0,9),(1,9),(2,9),(3,9),(4,9),(5,9),(6,9),(7,9),(8,9),(0,10),(1,10),(2,10),(3,10),(4,10),(5,10),(6,10),(7,10),(0,11),(1,11),(2,11),(3,11),(4,11),(5,11),(6,11),(7,11),(2,12),(3,12),(2,13),(3,13)])
 (.seq
 (.reg [] [⟨some 26,.mov (.tmp 1),none⟩,
 ⟨some 27,.arith .add .i64 (.tmp 26) (.cst (.d (.int .i64 1))),none⟩,
 ⟨some 28,.mov (.tmp 2),none⟩,
 ⟨some 29,.arith .sub .i64 (.tmp 28) (.cst (.d (.int .i64 1))),none⟩,
 ⟨some 10,.mov (.tmp 27),none⟩,
 ⟨some 11,.mov (.tmp 29),none⟩])
 (.seq
 (.post [0,1,10,11] []
 (.block 0
 (.keep [0,1,10,11] []
 (.loop
 (.post [0,1,10,11] []
 (.seq
 (.seq
 (.regd [] [⟨some 30,.mov (.tmp 10),none⟩,
 ⟨some 31,.mov (.tmp 11),none⟩,
 ⟨some 32,.cmp .leq (.tmp 30) (.tmp 31),none⟩,
 ⟨some 33,.mov (.tmp 32),none⟩,
 ⟨some 34,.mov (.tmp 0),some (33,true)⟩,
 ⟨some 35,.mov (.tmp 10),some (33,true)⟩,
 ⟨some 36,.ixa 1 (.tmp 34) (.tmp 35),some (33,true)⟩,
 ⟨some 37,.ld false 1 (.tmp 36),some (33,true)⟩,
 ⟨some 38,.mov (.tmp 0),some (33,true)⟩,
 ⟨some 39,.mov (.tmp 1),some (33,true)⟩,
 ⟨some 40,.ixa 1 (.tmp 38) (.tmp 39),some (33,true)⟩,
 ⟨some 41,.ld false 1 (.tmp 40),some (33,true)⟩,
 ⟨some 42,.call 194 [(.tmp 37),(.tmp 41)],some (33,true)⟩,
 ⟨some 43,.pick (.tmp 33) (.tmp 42) (.cst (.d (.bool false))),none⟩] [(0,1),(4,5),(4,8),(5,8),(6,8),(7,8),(4,9),(5,9),(6,9),(7,9),(8,9),(4,10),(5,10),(6,10),(7,10),(4,11),(5,11),(6,11),(7,11)])
 (.cond (.tmp 43)
 .skip
 (.exit 0)))
 (.block 1
 (.reg [] [⟨some 44,.mov (.tmp 10),none⟩,
 ⟨some 45,.arith .add .i64 (.tmp 44) (.cst (.d (.int .i64 1))),none⟩,
 ⟨some 10,.mov (.tmp 45),none⟩]))))))))
 (.seq
 (.post [0,1,10,11] []
 (.block 2
 (.keep [0,1,10,11] []
 (.loop
 (.post [0,1,10,11] []
 (.seq
 (.seq
 (.regd [] [⟨some 46,.mov (.tmp 10),none⟩,
 ⟨some 47,.mov (.tmp 11),none⟩,
 ⟨some 48,.cmp .leq (.tmp 46) (.tmp 47),none⟩,
 ⟨some 49,.mov (.tmp 48),none⟩,
 ⟨some 50,.mov (.tmp 0),some (49,true)⟩,
 ⟨some 51,.mov (.tmp 11),some (49,true)⟩,
 ⟨some 52,.ixa 1 (.tmp 50) (.tmp 51),some (49,true)⟩,
 ⟨some 53,.ld false 1 (.tmp 52),some (49,true)⟩,
 ⟨some 54,.mov (.tmp 0),some (49,true)⟩,
 ⟨some 55,.mov (.tmp 1),some (49,true)⟩,
 ⟨some 56,.ixa 1 (.tmp 54) (.tmp 55),some (49,true)⟩,
 ⟨some 57,.ld false 1 (.tmp 56),some (49,true)⟩,
 ⟨some 58,.call 194 [(.tmp 53),(.tmp 57)],some (49,true)⟩,
 ⟨some 59,.not (.tmp 58),some (49,true)⟩,
 ⟨some 60,.pick (.tmp 49) (.tmp 59) (.cst (.d (.bool false))),none⟩] [(0,1),(4,5),(4,8),(5,8),(6,8),(7,8),(4,9),(5,9),(6,9),(7,9),(8,9),(4,10),(5,10),(6,10),(7,10),(4,11),(5,11),(6,11),(7,11)])
 (.cond (.tmp 60)
 .skip
 (.exit 2)))
 (.block 3
 (.reg [] [⟨some 61,.mov (.tmp 11),none⟩,
 ⟨some 62,.arith .sub .i64 (.tmp 61) (.cst (.d (.int .i64 1))),none⟩,
 ⟨some 11,.mov (.tmp 62),none⟩]))))))))
 (.seq
 (.seq
 (.reg [] [⟨some 63,.mov (.tmp 10),none⟩,
 ⟨some 64,.mov (.tmp 11),none⟩,
 ⟨some 65,.cmp .gtr (.tmp 63) (.tmp 64),none⟩])
 (.cond (.tmp 65)
 (.seq
 (.regd [] [⟨some 66,.mov (.tmp 0),none⟩,
 ⟨some 67,.mov (.tmp 11),none⟩,
 ⟨some 68,.mov (.tmp 0),none⟩,
 ⟨some 69,.mov (.tmp 1),none⟩,
 ⟨some 70,.mov (.tmp 0),none⟩,
 ⟨some 71,.mov (.tmp 1),none⟩,
 ⟨some 72,.ixa 1 (.tmp 70) (.tmp 71),none⟩,
 ⟨some 73,.ld false 1 (.tmp 72),none⟩,
 ⟨some 74,.mov (.tmp 0),none⟩,
 ⟨some 75,.mov (.tmp 11),none⟩,
 ⟨some 76,.ixa 1 (.tmp 74) (.tmp 75),none⟩,
 ⟨some 77,.ld false 1 (.tmp 76),none⟩,
 ⟨some 78,.ixa 1 (.tmp 66) (.tmp 67),none⟩,
 ⟨none,.st 1 (.tmp 78) (.tmp 73),none⟩,
 ⟨some 79,.ixa 1 (.tmp 68) (.tmp 69),none⟩,
 ⟨none,.st 1 (.tmp 79) (.tmp 77),none⟩] [(0,1),(0,2),(1,2),(0,3),(1,3),(2,3),(0,4),(1,4),(2,4),(3,4),(0,5),(1,5),(2,5),(3,5),(4,5),(0,6),(1,6),(2,6),(3,6),(0,7),(1,7),(2,7),(3,7),(0,8),(1,8),(2,8),(3,8),(4,8),(5,8),(6,8),(7,8),(0,9),(1,9),(2,9),(3,9),(4,9),(5,9),(6,9),(7,9),(8,9),(0,10),(1,10),(2,10),(3,10),(4,10),(5,10),(6,10),(7,10),(0,11),(1,11),(2,11),(3,11),(4,11),(5,11),(6,11),(7,11),(2,12),(3,12),(2,13),(3,13)])
 (.seq
 (.reg [] [⟨some 80,.mov (.tmp 11),none⟩,
 ⟨some 8,.mov (.tmp 80),none⟩,
 ⟨some 9,.mov (.cst (.d (.bool true))),none⟩])
 .ret))
 .skip))
 (.seq
 (.regd [] [⟨some 81,.mov (.tmp 0),none⟩,
 ⟨some 82,.mov (.tmp 10),none⟩,
 ⟨some 83,.mov (.tmp 0),none⟩,
 ⟨some 84,.mov (.tmp 11),none⟩,
 ⟨some 85,.mov (.tmp 0),none⟩,
 ⟨some 86,.mov (.tmp 11),none⟩,
 ⟨some 87,.ixa 1 (.tmp 85) (.tmp 86),none⟩,
 ⟨some 88,.ld false 1 (.tmp 87),none⟩,
 ⟨some 89,.mov (.tmp 0),none⟩,
 ⟨some 90,.mov (.tmp 10),none⟩,
 ⟨some 91,.ixa 1 (.tmp 89) (.tmp 90),none⟩,
 ⟨some 92,.ld false 1 (.tmp 91),none⟩,
 ⟨some 93,.ixa 1 (.tmp 81) (.tmp 82),none⟩,
 ⟨none,.st 1 (.tmp 93) (.tmp 88),none⟩,
 ⟨some 94,.ixa 1 (.tmp 83) (.tmp 84),none⟩,
 ⟨none,.st 1 (.tmp 94) (.tmp 92),none⟩] [(0,1),(0,2),(1,2),(0,3),(1,3),(2,3),(0,4),(1,4),(2,4),(3,4),(0,5),(1,5),(2,5),(3,5),(4,5),(0,6),(1,6),(2,6),(3,6),(0,7),(1,7),(2,7),(3,7),(0,8),(1,8),(2,8),(3,8),(4,8),(5,8),(6,8),(7,8),(0,9),(1,9),(2,9),(3,9),(4,9),(5,9),(6,9),(7,9),(8,9),(0,10),(1,10),(2,10),(3,10),(4,10),(5,10),(6,10),(7,10),(0,11),(1,11),(2,11),(3,11),(4,11),(5,11),(6,11),(7,11),(2,12),(3,12),(2,13),(3,13)])
 (.seq
 (.reg [] [⟨some 95,.mov (.tmp 10),none⟩,
 ⟨some 96,.arith .add .i64 (.tmp 95) (.cst (.d (.int .i64 1))),none⟩,
 ⟨some 10,.mov (.tmp 96),none⟩])
 (.seq
 (.reg [] [⟨some 97,.mov (.tmp 11),none⟩,
 ⟨some 98,.arith .sub .i64 (.tmp 97) (.cst (.d (.int .i64 1))),none⟩,
 ⟨some 11,.mov (.tmp 98),none⟩])
 (.seq
 (.post [0,1,11] []
 (.block 4
 (.keep [0,1,10,11] []
 (.loop
 (.post [0,1,10,11] []
 (.block 5
 (.seq
 (.post [0,1,10,11] []
 (.block 6
 (.keep [0,1,10,11] []
 (.loop
 (.post [0,1,10,11] []
 (.seq
 (.seq
 (.regd [] [⟨some 99,.mov (.tmp 10),none⟩,
 ⟨some 100,.mov (.tmp 11),none⟩,
 ⟨some 101,.cmp .leq (.tmp 99) (.tmp 100),none⟩,
 ⟨some 102,.mov (.tmp 101),none⟩,
 ⟨some 103,.mov (.tmp 0),some (102,true)⟩,
 ⟨some 104,.mov (.tmp 10),some (102,true)⟩,
 ⟨some 105,.ixa 1 (.tmp 103) (.tmp 104),some (102,true)⟩,
 ⟨some 106,.ld false 1 (.tmp 105),some (102,true)⟩,
 ⟨some 107,.mov (.tmp 0),some (102,true)⟩,
 ⟨some 108,.mov (.tmp 1),some (102,true)⟩,
 ⟨some 109,.ixa 1 (.tmp 107) (.tmp 108),some (102,true)⟩,
 ⟨some 110,.ld false 1 (.tmp 109),some (102,true)⟩,
 ⟨some 111,.call 194 [(.tmp 106),(.tmp 110)],some (102,true)⟩,
 ⟨some 112,.pick (.tmp 102) (.tmp 111) (.cst (.d (.bool false))),none⟩] [(0,1),(4,5),(4,8),(5,8),(6,8),(7,8),(4,9),(5,9),(6,9),(7,9),(8,9),(4,10),(5,10),(6,10),(7,10),(4,11),(5,11),(6,11),(7,11)])
 (.cond (.tmp 112)
 .skip
 (.exit 6)))
 (.block 7
 (.reg [] [⟨some 113,.mov (.tmp 10),none⟩,
 ⟨some 114,.arith .add .i64 (.tmp 113) (.cst (.d (.int .i64 1))),none⟩,
 ⟨some 10,.mov (.tmp 114),none⟩]))))))))
 (.seq
 (.post [0,1,10,11] []
 (.block 8
 (.keep [0,1,10,11] []
 (.loop
 (.post [0,1,10,11] []
 (.seq
 (.seq
 (.regd [] [⟨some 115,.mov (.tmp 10),none⟩,
 ⟨some 116,.mov (.tmp 11),none⟩,
 ⟨some 117,.cmp .leq (.tmp 115) (.tmp 116),none⟩,
 ⟨some 118,.mov (.tmp 117),none⟩,
 ⟨some 119,.mov (.tmp 0),some (118,true)⟩,
 ⟨some 120,.mov (.tmp 11),some (118,true)⟩,
 ⟨some 121,.ixa 1 (.tmp 119) (.tmp 120),some (118,true)⟩,
 ⟨some 122,.ld false 1 (.tmp 121),some (118,true)⟩,
 ⟨some 123,.mov (.tmp 0),some (118,true)⟩,
 ⟨some 124,.mov (.tmp 1),some (118,true)⟩,
 ⟨some 125,.ixa 1 (.tmp 123) (.tmp 124),some (118,true)⟩,
 ⟨some 126,.ld false 1 (.tmp 125),some (118,true)⟩,
 ⟨some 127,.call 194 [(.tmp 122),(.tmp 126)],some (118,true)⟩,
 ⟨some 128,.not (.tmp 127),some (118,true)⟩,
 ⟨some 129,.pick (.tmp 118) (.tmp 128) (.cst (.d (.bool false))),none⟩] [(0,1),(4,5),(4,8),(5,8),(6,8),(7,8),(4,9),(5,9),(6,9),(7,9),(8,9),(4,10),(5,10),(6,10),(7,10),(4,11),(5,11),(6,11),(7,11)])
 (.cond (.tmp 129)
 .skip
 (.exit 8)))
 (.block 9
 (.reg [] [⟨some 130,.mov (.tmp 11),none⟩,
 ⟨some 131,.arith .sub .i64 (.tmp 130) (.cst (.d (.int .i64 1))),none⟩,
 ⟨some 11,.mov (.tmp 131),none⟩]))))))))
 (.seq
 (.seq
 (.reg [] [⟨some 132,.mov (.tmp 10),none⟩,
 ⟨some 133,.mov (.tmp 11),none⟩,
 ⟨some 134,.cmp .gtr (.tmp 132) (.tmp 133),none⟩])
 (.cond (.tmp 134)
 (.exit 4)
 .skip))
 (.seq
 (.regd [] [⟨some 135,.mov (.tmp 0),none⟩,
 ⟨some 136,.mov (.tmp 10),none⟩,
 ⟨some 137,.mov (.tmp 0),none⟩,
 ⟨some 138,.mov (.tmp 11),none⟩,
 ⟨some 139,.mov (.tmp 0),none⟩,
 ⟨some 140,.mov (.tmp 11),none⟩,
 ⟨some 141,.ixa 1 (.tmp 139) (.tmp 140),none⟩,
 ⟨some 142,.ld false 1 (.tmp 141),none⟩,
 ⟨some 143,.mov (.tmp 0),none⟩,
 ⟨some 144,.mov (.tmp 10),none⟩,
 ⟨some 145,.ixa 1 (.tmp 143) (.tmp 144),none⟩,
 ⟨some 146,.ld false 1 (.tmp 145),none⟩,
 ⟨some 147,.ixa 1 (.tmp 135) (.tmp 136),none⟩,
 ⟨none,.st 1 (.tmp 147) (.tmp 142),none⟩,
 ⟨some 148,.ixa 1 (.tmp 137) (.tmp 138),none⟩,
 ⟨none,.st 1 (.tmp 148) (.tmp 146),none⟩] [(0,1),(0,2),(1,2),(0,3),(1,3),(2,3),(0,4),(1,4),(2,4),(3,4),(0,5),(1,5),(2,5),(3,5),(4,5),(0,6),(1,6),(2,6),(3,6),(0,7),(1,7),(2,7),(3,7),(0,8),(1,8),(2,8),(3,8),(4,8),(5,8),(6,8),(7,8),(0,9),(1,9),(2,9),(3,9),(4,9),(5,9),(6,9),(7,9),(8,9),(0,10),(1,10),(2,10),(3,10),(4,10),(5,10),(6,10),(7,10),(0,11),(1,11),(2,11),(3,11),(4,11),(5,11),(6,11),(7,11),(2,12),(3,12),(2,13),(3,13)])
 (.seq
 (.reg [] [⟨some 149,.mov (.tmp 10),none⟩,
 ⟨some 150,.arith .add .i64 (.tmp 149) (.cst (.d (.int .i64 1))),none⟩,
 ⟨some 10,.mov (.tmp 150),none⟩])
 (.reg [] [⟨some 151,.mov (.tmp 11),none⟩,
 ⟨some 152,.arith .sub .i64 (.tmp 151) (.cst (.d (.int .i64 1))),none⟩,
 ⟨some 11,.mov (.tmp 152),none⟩]))))))))))))
 (.seq
 (.regd [] [⟨some 153,.mov (.tmp 0),none⟩,
 ⟨some 154,.mov (.tmp 11),none⟩,
 ⟨some 155,.mov (.tmp 0),none⟩,
 ⟨some 156,.mov (.tmp 1),none⟩,
 ⟨some 157,.mov (.tmp 0),none⟩,
 ⟨some 158,.mov (.tmp 1),none⟩,
 ⟨some 159,.ixa 1 (.tmp 157) (.tmp 158),none⟩,
 ⟨some 160,.ld false 1 (.tmp 159),none⟩,
 ⟨some 161,.mov (.tmp 0),none⟩,
 ⟨some 162,.mov (.tmp 11),none⟩,
 ⟨some 163,.ixa 1 (.tmp 161) (.tmp 162),none⟩,
 ⟨some 164,.ld false 1 (.tmp 163),none⟩,
 ⟨some 165,.ixa 1 (.tmp 153) (.tmp 154),none⟩,
 ⟨none,.st 1 (.tmp 165) (.tmp 160),none⟩,
 ⟨some 166,.ixa 1 (.tmp 155) (.tmp 156),none⟩,
 ⟨none,.st 1 (.tmp 166) (.tmp 164),none⟩] [(0,1),(0,2),(1,2),(0,3),(1,3),(2,3),(0,4),(1,4),(2,4),(3,4),(0,5),(1,5),(2,5),(3,5),(4,5),(0,6),(1,6),(2,6),(3,6),(0,7),(1,7),(2,7),(3,7),(0,8),(1,8),(2,8),(3,8),(4,8),(5,8),(6,8),(7,8),(0,9),(1,9),(2,9),(3,9),(4,9),(5,9),(6,9),(7,9),(8,9),(0,10),(1,10),(2,10),(3,10),(4,10),(5,10),(6,10),(7,10),(0,11),(1,11),(2,11),(3,11),(4,11),(5,11),(6,11),(7,11),(2,12),(3,12),(2,13),(3,13)])
 (.seq
 (.reg [] [⟨some 167,.mov (.tmp 11),none⟩,
 ⟨some 8,.mov (.tmp 167),none⟩,
 ⟨some 9,.mov (.cst (.d (.bool false))),none⟩])
 .ret))))))))))))⟩
def tx197:AFun:=⟨19,40,[.tmp 2],
 (.seq
 (.reg [] [⟨some 2,.mov (.cst (.d (.int .i64 0))),none⟩])
 (.seq
 (.seq
 (.reg [] [⟨some 3,.mov (.tmp 0),none⟩,
 ⟨some 4,.cmp .geq (.tmp 3) (.cst (.d (.int .u32 65536))),none⟩])
 (.cond (.tmp 4)
 (.seq
 (.reg [] [⟨some 5,.mov (.tmp 0),none⟩,
 ⟨some 6,.shf .shr .u32 (.tmp 5) (.cst (.d (.int .u64 16))),none⟩,
 ⟨some 0,.mov (.tmp 6),none⟩])
 (.reg [] [⟨some 2,.mov (.cst (.d (.int .i64 16))),none⟩]))
 .skip))
 (.seq
 (.seq
 (.reg [] [⟨some 7,.mov (.tmp 0),none⟩,
 ⟨some 8,.cmp .geq (.tmp 7) (.cst (.d (.int .u32 256))),none⟩])
 (.cond (.tmp 8)
 (.seq
 (.reg [] [⟨some 9,.mov (.tmp 0),none⟩,
 ⟨some 10,.shf .shr .u32 (.tmp 9) (.cst (.d (.int .u64 8))),none⟩,
 ⟨some 0,.mov (.tmp 10),none⟩])
 (.reg [] [⟨some 11,.mov (.tmp 2),none⟩,
 ⟨some 12,.arith .add .i64 (.tmp 11) (.cst (.d (.int .i64 8))),none⟩,
 ⟨some 2,.mov (.tmp 12),none⟩]))
 .skip))
 (.seq
 (.reg [] [⟨some 13,.mov (.tmp 2),none⟩,
 ⟨some 14,.mov (.tmp 0),none⟩,
 ⟨some 15,.conv .u8 (.tmp 14),none⟩,
 ⟨some 16,.ixs (.cst (.d (.str [0,1,2,2,3,3,3,3,4,4,4,4,4,4,4,4,5,5,5,5,5,5,5,5,5,5,5,5,5,5,5,5,6,6,6,6,6,6,6,6,6,6,6,6,6,6,6,6,6,6,6,6,6,6,6,6,6,6,6,6,6,6,6,6,7,7,7,7,7,7,7,7,7,7,7,7,7,7,7,7,7,7,7,7,7,7,7,7,7,7,7,7,7,7,7,7,7,7,7,7,7,7,7,7,7,7,7,7,7,7,7,7,7,7,7,7,7,7,7,7,7,7,7,7,7,7,7,7,8,8,8,8,8,8,8,8,8,8,8,8,8,8,8,8,8,8,8,8,8,8,8,8,8,8,8,8,8,8,8,8,8,8,8,8,8,8,8,8,8,8,8,8,8,8,8,8,8,8,8,8,8,8,8,8,8,8,8,8,8,8,8,8,8,8,8,8,8,8,8,8,8,8,8,8,8,8,8,8,8,8,8,8,8,8,8,8,8,8,8,8,8,8,8,8,8,8,8,8,8,8,8,8,8,8,8,8,8,8,8,8,8,8,8,8,8,8,8,8,8,8,8,8,8,8,8,8]))) (.tmp 15),none⟩,
 ⟨some 17,.conv .i64 (.tmp 16),none⟩,
 ⟨some 18,.arith .add .i64 (.tmp 13) (.tmp 17),none⟩,
 ⟨some 2,.mov (.tmp 18),none⟩])
 .ret))))⟩
def tx198:AFun:=⟨25,40,[.tmp 2],
 (.seq
 (.reg [] [⟨some 2,.mov (.cst (.d (.int .i64 0))),none⟩])
 (.seq
 (.seq
 (.reg [] [⟨some 3,.mov (.tmp 0),none⟩,
 ⟨some 4,.cmp .geq (.tmp 3) (.cst (.d (.int .u64 4294967296))),none⟩])
 (.cond (.tmp 4)
 (.seq
 (.reg [] [⟨some 5,.mov (.tmp 0),none⟩,
 ⟨some 6,.shf .shr .u64 (.tmp 5) (.cst (.d (.int .u64 32))),none⟩,
 ⟨some 0,.mov (.tmp 6),none⟩])
 (.reg [] [⟨some 2,.mov (.cst (.d (.int .i64 32))),none⟩]))
 .skip))
 (.seq
 (.seq
 (.reg [] [⟨some 7,.mov (.tmp 0),none⟩,
 ⟨some 8,.cmp .geq (.tmp 7) (.cst (.d (.int .u64 65536))),none⟩])
 (.cond (.tmp 8)
 (.seq
 (.reg [] [⟨some 9,.mov (.tmp 0),none⟩,
 ⟨some 10,.shf .shr .u64 (.tmp 9) (.cst (.d (.int .u64 16))),none⟩,
 ⟨some 0,.mov (.tmp 10),none⟩])
 (.reg [] [⟨some 11,.mov (.tmp 2),none⟩,
 ⟨some 12,.arith .add .i64 (.tmp 11) (.cst (.d (.int .i64 16))),none⟩,
 ⟨some 2,.mov (.tmp 12),none⟩]))
 .skip))
 (.seq
 (.seq
 (.reg [] [⟨some 13,.mov (.tmp 0),none⟩,
 ⟨some 14,.cmp .geq (.tmp 13) (.cst (.d (.int .u64 256))),none⟩])
 (.cond (.tmp 14)
 (.seq
 (.reg [] [⟨some 15,.mov (.tmp 0),none⟩,
 ⟨some 16,.shf .shr .u64 (.tmp 15) (.cst (.d (.int .u64 8))),none⟩,
 ⟨some 0,.mov (.tmp 16),none⟩])
 (.reg [] [⟨some 17,.mov (.tmp 2),none⟩,
 ⟨some 18,.arith .add .i64 (.tmp 17) (.cst (.d (.int .i64 8))),none⟩,
 ⟨some 2,.mov (.tmp 18),none⟩]))
 .skip))
 (.seq
 (.reg [] [⟨some 19,.mov (.tmp 2),none⟩,
 ⟨some 20,.mov (.tmp 0),none⟩,
 ⟨some 21,.conv .u8 (.tmp 20),none⟩,
 ⟨some 22,.ixs (.cst (.d (.str [0,1,2,2,3,3,3,3,4,4,4,4,4,4,4,4,5,5,5,5,5,5,5,5,5,5,5,5,5,5,5,5,6,6,6,6,6,6,6,6,6,6,6,6,6,6,6,6,6,6,6,6,6,6,6,6,6,6,6,6,6,6,6,6,7,7,7,7,7,7,7,7,7,7,7,7,7,7,7,7,7,7,7,7,7,7,7,7,7,7,7,7,7,7,7,7,7,7,7,7,7,7,7,7,7,7,7,7,7,7,7,7,7,7,7,7,7,7,7,7,7,7,7,7,7,7,7,7,8,8,8,8,8,8,8,8,8,8,8,8,8,8,8,8,8,8,8,8,8,8,8,8,8,8,8,8,8,8,8,8,8,8,8,8,8,8,8,8,8,8,8,8,8,8,8,8,8,8,8,8,8,8,8,8,8,8,8,8,8,8,8,8,8,8,8,8,8,8,8,8,8,8,8,8,8,8,8,8,8,8,8,8,8,8,8,8,8,8,8,8,8,8,8,8,8,8,8,8,8,8,8,8,8,8,8,8,8,8,8,8,8,8,8,8,8,8,8,8,8,8,8,8,8,8,8,8]))) (.tmp 21),none⟩,
 ⟨some 23,.conv .i64 (.tmp 22),none⟩,
 ⟨some 24,.arith .add .i64 (.tmp 19) (.tmp 23),none⟩,
 ⟨some 2,.mov (.tmp 24),none⟩])
 .ret)))))⟩
def tx199:AFun:=⟨19,40,[.tmp 4],
 (.seq
 (.reg [] [⟨some 4,.mov (.cst (.d (.int .i64 0))),none⟩])
 (.seq
 (.seq
 (.reg [] [⟨some 6,.mov (.tmp 0),none⟩,
 ⟨some 7,.len (.tmp 6),none⟩,
 ⟨some 8,.mov (.cst (.d (.int .i64 0))),none⟩])
 (.post [] []
 (.block 0
 (.keep [0,1,7,8] []
 (.loop
 (.post [0,1,7,8] []
 (.seq
 (.reg [] [⟨some 9,.cmp .lss (.tmp 8) (.tmp 7),none⟩])
 (.seq
 (.cond (.tmp 9)
 .skip
 (.exit 0))
 (.seq
 (.block 1
 (.seq
 (.reg [] [⟨some 10,.mov (.tmp 8),none⟩,
 ⟨some 5,.mov (.tmp 10),none⟩])
 (.seq
 (.reg [] [⟨some 11,.mov (.tmp 1),none⟩,
 ⟨some 12,.mov (.tmp 0),none⟩,
 ⟨some 13,.mov (.tmp 5),none⟩,
 ⟨some 14,.ixa 2 (.tmp 12) (.tmp 13),none⟩,
 ⟨some 15,.ld true 2 (.tmp 14),none⟩,
 ⟨some 16,.callv (.tmp 11) [(.tmp 15)],none⟩])
 (.cond (.tmp 16)
 (.seq
 (.reg [] [⟨some 17,.mov (.tmp 5),none⟩,
 ⟨some 4,.mov (.tmp 17),none⟩])
 .ret)
 .skip))))
 (.reg [] [⟨some 18,.arith .add .i64 (.tmp 8) (.cst (.d (.int .i64 1))),none⟩,
 ⟨some 8,.mov (.tmp 18),none⟩]))))))))))
 (.seq
 (.reg [] [⟨some 4,.mov (.cst (.d (.int .i64 (-1)))),none⟩])
 .ret)))⟩
def tx201:AFun:=⟨53,40,[],
 (.seq
 (.reg [] [⟨some 10,.mov (.tmp 1),none⟩,
 ⟨some 11,.arith .add .i64 (.tmp 10) (.cst (.d (.int .i64 1))),none⟩,
 ⟨some 8,.mov (.tmp 11),none⟩])
 (.post [] []
 (.block 0
 (.keep [0,1,2,3,8] []
 (.loop
 (.post [0,1,2,3,8] []
 (.seq
 (.seq
 (.reg [] [⟨some 12,.mov (.tmp 8),none⟩,
 ⟨some 13,.mov (.tmp 2),none⟩,
 ⟨some 14,.cmp .lss (.tmp 12) (.tmp 13),none⟩])
 (.cond (.tmp 14)
 .skip
 (.exit 0)))
 (.seq
 (.block 1
 (.seq
 (.reg [] [⟨some 17,.mov (.tmp 8),none⟩,
 ⟨some 9,.mov (.tmp 17),none⟩])
 (.post [0,1,2,3,8] []
 (.block 2
 (.keep [0,1,2,3,8,9] []
 (.loop
 (.post [0,1,2,3,8,9] []
 (.seq
 (.seq
 (.regd [] [⟨some 18,.mov (.tmp 9),none⟩,
 ⟨some 19,.mov (.tmp 1),none⟩,
 ⟨some 20,.cmp .gtr (.tmp 18) (.tmp 19),none⟩,
 ⟨some 21,.mov (.tmp 20),none⟩,
 ⟨some 22,.mov (.tmp 3),some (21,true)⟩,
 ⟨some 23,.mov (.tmp 0),some (21,true)⟩,
 ⟨some 24,.mov (.tmp 9),some (21,true)⟩,
 ⟨some 25,.ixa 4 (.tmp 23) (.tmp 24),some (21,true)⟩,
 ⟨some 26,.ld true 4 (.tmp 25),some (21,true)⟩,
 ⟨some 27,.mov (.tmp 0),some (21,true)⟩,
 ⟨some 28,.mov (.tmp 9),some (21,true)⟩,
 ⟨some 29,.arith .sub .i64 (.tmp 28) (.cst (.d (.int .i64 1))),some (21,true)⟩,
 ⟨some 30,.ixa 4 (.tmp 27) (.tmp 29),some (21,true)⟩,
 ⟨some 31,.ld true 4 (.tmp 30),some (21,true)⟩,
 ⟨some 32,.callv (.tmp 22) [(.tmp 26),(.tmp 31)],some (21,true)⟩,
 ⟨some 33,.cmp .lss (.tmp 32) (.cst (.d (.int .i64 0))),some (21,true)⟩,
 ⟨some 34,.pick (.tmp 21) (.tmp 33) (.cst (.d (.bool false))),none⟩] [(0,1),(4,5),(4,6),(5,6),(4,7),(4,8),(4,9),(5,9),(6,9),(7,9),(8,9),(4,10),(5,10),(6,10),(7,10),(8,10),(9,10),(4,11),(5,11),(6,11),(7,11),(8,11),(9,11),(4,12),(5,12),(6,12),(7,12),(8,12),(4,13),(5,13),(6,13),(7,13),(8,13)])
 (.cond (.tmp 34)
 .skip
 (.exit 2)))
 (.seq
 (.block 3
 (.regd [] [⟨some 37,.mov (.tmp 0),none⟩,
 ⟨some 38,.mov (.tmp 9),none⟩,
 ⟨some 39,.mov (.tmp 0),none⟩,
 ⟨some 40,.mov (.tmp 9),none⟩,
 ⟨some 41,.arith .sub .i64 (.tmp 40) (.cst (.d (.int .i64 1))),none⟩,
 ⟨some 42,.mov (.tmp 0),none⟩,
 ⟨some 43,.mov (.tmp 9),none⟩,
 ⟨some 44,.arith .sub .i64 (.tmp 43) (.cst (.d (.int .i64 1))),none⟩,
 ⟨some 45,.ixa 4 (.tmp 42) (.tmp 44),none⟩,
 ⟨some 46,.ld true 4 (.tmp 45),none⟩,
 ⟨some 47,.mov (.tmp 0),none⟩,
 ⟨some 48,.mov (.tmp 9),none⟩,
 ⟨some 49,.ixa 4 (.tmp 47) (.tmp 48),none⟩,
 ⟨some 50,.ld true 4 (.tmp 49),none⟩,
 ⟨some 51,.ixa 4 (.tmp 37) (.tmp 38),none⟩,
 ⟨none,.st 4 (.tmp 51) (.tmp 46),none⟩,
 ⟨some 52,.ixa 4 (.tmp 39) (.tmp 41),none⟩,
 ⟨none,.st 4 (.tmp 52) (.tmp 50),none⟩] [(0,1),(0,2),(1,2),(0,3),(1,3),(2,3),(0,4),(1,4),(2,4),(0,5),(1,5),(2,5),(3,5),(4,5),(0,6),(1,6),(2,6),(3,6),(4,6),(5,6),(0,7),(1,7),(2,7),(3,7),(4,7),(5,7),(0,8),(1,8),(2,8),(3,8),(4,8),(0,9),(1,9),(2,9),(3,9),(4,9),(0,10),(1,10),(2,10),(3,10),(4,10),(5,10),(6,10),(7,10),(8,10),(9,10),(0,11),(1,11),(2,11),(3,11),(4,11),(5,11),(6,11),(7,11),(8,11),(9,11),(10,11),(0,12),(1,12),(2,12),(3,12),(4,12),(5,12),(6,12),(7,12),(8,12),(9,12),(0,13),(1,13),(2,13),(3,13),(4,13),(5,13),(6,13),(7,13),(8,13),(9,13),(2,14),(3,14),(4,14),(2,15),(3,15),(4,15)]))
 (.reg [] [⟨some 35,.mov (.tmp 9),none⟩,
 ⟨some 36,.arith .sub .i64 (.tmp 35) (.cst (.d (.int .i64 1))),none⟩,
 ⟨some 9,.mov (.tmp 36),none⟩]))))))))))
 (.reg [] [⟨some 15,.mov (.tmp 8),none⟩,
 ⟨some 16,.arith .add .i64 (.tmp 15) (.cst (.d (.int .i64 1))),none⟩,
 ⟨some 8,.mov (.tmp 16),none⟩])))))))))⟩
def tx202:AFun:=⟨60,40,[],
 (.seq
 (.reg [] [⟨some 13,.mov (.tmp 1),none⟩,
 ⟨some 8,.mov (.tmp 13),none⟩])
 (.seq
 (.reg [] [⟨some 9,.mov (.cst (.d (.int .i64 0))),none⟩])
 (.seq
 (.reg [] [⟨some 14,.mov (.tmp 2),none⟩,
 ⟨some 15,.mov (.tmp 1),none⟩,
 ⟨some 16,.arith .sub .i64 (.tmp 14) (.tmp 15),none⟩,
 ⟨some 10,.mov (.tmp 16),none⟩])
 (.seq
 (.seq
 (.reg [] [⟨some 17,.mov (.tmp 10),none⟩,
 ⟨some 18,.arith .sub .i64 (.tmp 17) (.cst (.d (.int .i64 1))),none⟩,
 ⟨some 19,.arith .quo .i64 (.tmp 18) (.cst (.d (.int .i64 2))),none⟩,
 ⟨some 11,.mov (.tmp 19),none⟩])
 (.post [0,3,8,9,10] []
 (.block 0
 (.keep [0,3,8,9,10,11] []
 (.loop
 (.post [0,3,8,9,10,11] []
 (.seq
 (.seq
 (.reg [] [⟨some 20,.mov (.tmp 11),none⟩,
 ⟨some 21,.cmp .geq (.tmp 20) (.cst (.d (.int .i64 0))),none⟩])
 (.cond (.tmp 21)
 .skip
 (.exit 0)))
 (.seq
 (.block 1
 (.reg [] [⟨some 24,.mov (.tmp 0),none⟩,
 ⟨some 25,.mov (.tmp 11),none⟩,
 ⟨some 26,.mov (.tmp 10),none⟩,
 ⟨some 27,.mov (.tmp 8),none⟩,
 ⟨some 28,.mov (.tmp 3),none⟩,
 ⟨some 29,.calli 218 [(.tmp 24),(.tmp 25),(.tmp 26),(.tmp 27),(.tmp 28)],none⟩]))
 (.reg [] [⟨some 22,.mov (.tmp 11),none⟩,
 ⟨some 23,.arith .sub .i64 (.tmp 22) (.cst (.d (.int .i64 1))),none⟩,
 ⟨some 11,.mov (.tmp 23),none⟩])))))))))
 (.seq
 (.reg [] [⟨some 30,.mov (.tmp 10),none⟩,
 ⟨some 31,.arith .sub .i64 (.tmp 30) (.cst (.d (.int .i64 1))),none⟩,
 ⟨some 12,.mov (.tmp 31),none⟩])
 (.post [] []
 (.block 2
 (.keep [0,3,8,9,12] []
 (.loop
 (.post [0,3,8,9,12] []
 (.seq
 (.seq
 (.reg [] [⟨some 32,.mov (.tmp 12),none⟩,
 ⟨some 33,.cmp .geq (.tmp 32) (.cst (.d (.int .i64 0))),none⟩])
 (.cond (.tmp 33)
 .skip
 (.exit 2)))
 (.seq
 (.block 3
 (.seq
 (.regd [] [⟨some 36,.mov (.tmp 0),none⟩,
 ⟨some 37,.mov (.tmp 8),none⟩,
 ⟨some 38,.mov (.tmp 0),none⟩,
 ⟨some 39,.mov (.tmp 8),none⟩,
 ⟨some 40,.mov (.tmp 12),none⟩,
 ⟨some 41,.arith .add .i64 (.tmp 39) (.tmp 40),none⟩,
 ⟨some 42,.mov (.tmp 0),none⟩,
 ⟨some 43,.mov (.tmp 8),none⟩,
 ⟨some 44,.mov (.tmp 12),none⟩,
 ⟨some 45,.arith .add .i64 (.tmp 43) (.tmp 44),none⟩,
 ⟨some 46,.ixa 4 (.tmp 42) (.tmp 45),none⟩,
 ⟨some 47,.ld true 4 (.tmp 46),none⟩,
 ⟨some 48,.mov (.tmp 0),none⟩,
 ⟨some 49,.mov (.tmp 8),none⟩,
 ⟨some 50,.ixa 4 (.tmp 48) (.tmp 49),none⟩,
 ⟨some 51,.ld true 4 (.tmp 50),none⟩,
 ⟨some 52,.ixa 4 (.tmp 36) (.tmp 37),none⟩,
 ⟨none,.st 4 (.tmp 52) (.tmp 47),none⟩,
 ⟨some 53,.ixa 4 (.tmp 38) (.tmp 41),none⟩,
 ⟨none,.st 4 (.tmp 53) (.tmp 51),none⟩] [(0,1),(0,2),(1,2),(0,3),(1,3),(2,3),(0,4),(1,4),(2,4),(3,4),(0,5),(1,5),(2,5),(0,6),(1,6),(2,6),(3,6),(4,6),(5,6),(0,7),(1,7),(2,7),(3,7),(4,7),(5,7),(6,7),(0,8),(1,8),(2,8),(3,8),(4,8),(5,8),(6,8),(7,8),(0,9),(1,9),(2,9),(3,9),(4,9),(5,9),(6,9),(0,10),(1,10),(2,10),(3,10),(4,10),(5,10),(0,11),(1,11),(2,11),(3,11),(4,11),(5,11),(0,12),(1,12),(2,12),(3,12),(4,12),(5,12),(6,12),(7,12),(8,12),(9,12),(10,12),(11,12),(0,13),(1,13),(2,13),(3,13),(4,13),(5,13),(6,13),(7,13),(8,13),(9,13),(10,13),(11,13),(12,13),(0,14),(1,14),(2,14),(3,14),(4,14),(5,14),(6,14),(7,14),(8,14),(9,14),(10,14),(11,14),(0,15),(1,15),(2,15),(3,15),(4,15),(5,15),(6,15),(7,15),(8,15),(9,15),(10,15),(11,15),(2,16),(3,16),(4,16),(5,16),(2,17),(3,17),(4,17),(5,17)])
 (.reg [] [⟨some 54,.mov (.tmp 0),none⟩,
 ⟨some 55,.mov (.tmp 9),none⟩,
 ⟨some 56,.mov (.tmp 12),none⟩,
 ⟨some 57,.mov (.tmp 8),none⟩,
 ⟨some 58,.mov (.tmp 3),none⟩,
 ⟨some 59,.calli 218 [(.tmp 54),(.tmp 55),(.tmp 56),(.tmp 57),(.tmp 58)],none⟩])))
 (.reg [] [⟨some 34,.mov (.tmp 12),none⟩,
 ⟨some 35,.arith .sub .i64 (.tmp 34) (.cst (.d (.int .i64 1))),none⟩,
 ⟨some 12,.mov (.tmp 35),none⟩])))))))))))))⟩
def tx203:AFun:=⟨67,41,[],
 (.seq
 (.reg [] [⟨some 13,.mov (.tmp 2),none⟩,
 ⟨some 14,.mov (.tmp 1),none⟩,
 ⟨some 15,.arith .sub .i64 (.tmp 13) (.tmp 14),none⟩,
 ⟨some 8,.mov (.tmp 15),none⟩])
 (.seq
 (.reg [] [⟨some 16,.mov (.tmp 8),none⟩,
 ⟨some 17,.cmp .geq (.tmp 16) (.cst (.d (.int .i64 8))),none⟩])
 (.cond (.tmp 17)
 (.seq
 (.reg [0] [⟨some 18,.mov (.tmp 8),none⟩,
 ⟨some 19,.conv .u64 (.tmp 18),none⟩,
 ⟨some 9,.alloc 0 [(.d (.int .u64 0))],none⟩,
 ⟨none,.st 1 (.tmp 9) (.tmp 19),none⟩])
 (.seq
 (.reg [] [⟨some 20,.mov (.tmp 8),none⟩,
 ⟨some 21,.call 214 [(.tmp 20)],none⟩,
 ⟨some 10,.mov (.tmp 21),none⟩])
 (.seq
 (.reg [] [⟨some 22,.mov (.tmp 1),none⟩,
 ⟨some 23,.mov (.tmp 8),none⟩,
 ⟨some 24,.arith .quo .i64 (.tmp 23) (.cst (.d (.int .i64 4))),none⟩,
 ⟨some 25,.arith .mul .i64 (.tmp 24) (.cst (.d (.int .i64 2))),none⟩,
 ⟨some 26,.arith .add .i64 (.tmp 22) (.tmp 25),none⟩,
 ⟨some 27,.arith .sub .i64 (.tmp 26) (.cst (.d (.int .i64 1))),none⟩,
 ⟨some 11,.mov (.tmp 27),none⟩])
 (.post [] [0]
 (.block 0
 (.keep [0,1,8,9,10,11] [0]
 (.loop
 (.post [0,1,8,9,10,11] []
 (.seq
 (.seq
 (.reg [] [⟨some 28,.mov (.tmp 11),none⟩,
 ⟨some 29,.mov (.tmp 1),none⟩,
 ⟨some 30,.mov (.tmp 8),none⟩,
 ⟨some 31,.arith .quo .i64 (.tmp 30) (.cst (.d (.int .i64 4))),none⟩,
 ⟨some 32,.arith .mul .i64 (.tmp 31) (.cst (.d (.int .i64 2))),none⟩,
 ⟨some 33,.arith .add .i64 (.tmp 29) (.tmp 32),none⟩,
 ⟨some 34,.arith .add .i64 (.tmp 33) (.cst (.d (.int .i64 1))),none⟩,
 ⟨some 35,.cmp .leq (.tmp 28) (.tmp 34),none⟩])
 (.cond (.tmp 35)
 .skip
 (.exit 0)))
 (.seq
 (.block 1
 (.seq
 (.reg [] [⟨some 38,.call 215 [(.tmp 9)],none⟩,
 ⟨some 39,.mov (.tmp 10),none⟩,
 ⟨some 40,.arith .sub .u64 (.tmp 39) (.cst (.d (.int .u64 1))),none⟩,
 ⟨some 41,.bit .and .u64 (.tmp 38) (.tmp 40),none⟩,
 ⟨some 42,.conv .i64 (.tmp 41),none⟩,
 ⟨some 12,.mov (.tmp 42),none⟩])
 (.seq
 (.seq
 (.reg [] [⟨some 43,.mov (.tmp 12),none⟩,
 ⟨some 44,.mov (.tmp 8),none⟩,
 ⟨some 45,.cmp .geq (.tmp 43) (.tmp 44),none⟩])
 (.cond (.tmp 45)
 (.reg [] [⟨some 46,.mov (.tmp 12),none⟩,
 ⟨some 47,.mov (.tmp 8),none⟩,
 ⟨some 48,.arith .sub .i64 (.tmp 46) (.tmp 47),none⟩,
 ⟨some 12,.mov (.tmp 48),none⟩])
 .skip))
 (.regd [] [⟨some 49,.mov (.tmp 0),none⟩,
 ⟨some 50,.mov (.tmp 11),none⟩,
 ⟨some 51,.mov (.tmp 0),none⟩,
 ⟨some 52,.mov (.tmp 1),none⟩,
 ⟨some 53,.mov (.tmp 12),none⟩,
 ⟨some 54,.arith .add .i64 (.tmp 52) (.tmp 53),none⟩,
 ⟨some 55,.mov (.tmp 0),none⟩,
 ⟨some 56,.mov (.tmp 1),none⟩,
 ⟨some 57,.mov (.tmp 12),none⟩,
 ⟨some 58,.arith .add .i64 (.tmp 56) (.tmp 57),none⟩,
 ⟨some 59,.ixa 4 (.tmp 55) (.tmp 58),none⟩,
 ⟨some 60,.ld true 4 (.tmp 59),none⟩,
 ⟨some 61,.mov (.tmp 0),none⟩,
 ⟨some 62,.mov (.tmp 11),none⟩,
 ⟨some 63,.ixa 4 (.tmp 61) (.tmp 62),none⟩,
 ⟨some 64,.ld true 4 (.tmp 63),none⟩,
 ⟨some 65,.ixa 4 (.tmp 49) (.tmp 50),none⟩,
 ⟨none,.st 4 (.tmp 65) (.tmp 60),none⟩,
 ⟨some 66,.ixa 4 (.tmp 51) (.tmp 54),none⟩,
 ⟨none,.st 4 (.tmp 66) (.tmp 64),none⟩] [(0,1),(0,2),(1,2),(0,3),(1,3),(2,3),(0,4),(1,4),(2,4),(3,4),(0,5),(1,5),(2,5),(0,6),(1,6),(2,6),(3,6),(4,6),(5,6),(0,7),(1,7),(2,7),(3,7),(4,7),(5,7),(6,7),(0,8),(1,8),(2,8),(3,8),(4,8),(5,8),(6,8),(7,8),(0,9),(1,9),(2,9),(3,9),(4,9),(5,9),(6,9),(0,10),(1,10),(2,10),(3,10),(4,10),(5,10),(0,11),(1,11),(2,11),(3,11),(4,11),(5,11),(0,12),(1,12),(2,12),(3,12),(4,12),(5,12),(6,12),(7,12),(8,12),(9,12),(10,12),(11,12),(0,13),(1,13),(2,13),(3,13),(4,13),(5,13),(6,13),(7,13),(8,13),(9,13),(10,13),(11,13),(12,13),(0,14),(1,14),(2,14),(3,14),(4,14),(5,14),(6,14),(7,14),(8,14),(9,14),(10,14),(11,14),(0,15),(1,15),(2,15),(3,15),(4,15),(5,15),(6,15),(7,15),(8,15),(9,15),(10,15),(11,15),(2,16),(3,16),(4,16),(5,16),(2,17),(3,17),(4,17),(5,17)]))))
 (.reg [] [⟨some 36,.mov (.tmp 11),none⟩,
 ⟨some 37,.arith .add .i64 (.tmp 36) (.cst (.d (.int .i64 1))),none⟩,
 ⟨some 11,.mov (.tmp 37),none⟩])))))))))))
 .skip)))⟩
def tx204:AFun:=⟨63,41,[.tmp 8,.tmp 9],
 (.seq
 (.reg [] [⟨some 8,.mov (.cst (.d (.int .i64 0))),none⟩,
 ⟨some 9,.mov (.cst (.d (.int .i64 0))),none⟩])
 (.seq
 (.reg [] [⟨some 15,.mov (.tmp 2),none⟩,
 ⟨some 16,.mov (.tmp 1),none⟩,
 ⟨some 17,.arith .sub .i64 (.tmp 15) (.tmp 16),none⟩,
 ⟨some 10,.mov (.tmp 17),none⟩])
 (.seq
 (.reg [0] [⟨some 11,.alloc 0 [(.d (.int .i64 0))],none⟩])
 (.seq
 (.reg [] [⟨some 18,.mov (.tmp 1),none⟩,
 ⟨some 19,.mov (.tmp 10),none⟩,
 ⟨some 20,.arith .quo .i64 (.tmp 19) (.cst (.d (.int .i64 4))),none⟩,
 ⟨some 21,.arith .mul .i64 (.tmp 20) (.cst (.d (.int .i64 1))),none⟩,
 ⟨some 22,.arith .add .i64 (.tmp 18) (.tmp 21),none⟩,
 ⟨some 12,.mov (.tmp 22),none⟩])
 (.seq
 (.reg [] [⟨some 23,.mov (.tmp 1),none⟩,
 ⟨some 24,.mov (.tmp 10),none⟩,
 ⟨some 25,.arith .quo .i64 (.tmp 24) (.cst (.d (.int .i64 4))),none⟩,
 ⟨some 26,.arith .mul .i64 (.tmp 25) (.cst (.d (.int .i64 2))),none⟩,
 ⟨some 27,.arith .add .i64 (.tmp 23) (.tmp 26),none⟩,
 ⟨some 13,.mov (.tmp 27),none⟩])
 (.seq
 (.reg [] [⟨some 28,.mov (.tmp 1),none⟩,
 ⟨some 29,.mov (.tmp 10),none⟩,
 ⟨some 30,.arith .quo .i64 (.tmp 29) (.cst (.d (.int .i64 4))),none⟩,
 ⟨some 31,.arith .mul .i64 (.tmp 30) (.cst (.d (.int .i64 3))),none⟩,
 ⟨some 32,.arith .add .i64 (.tmp 28) (.tmp 31),none⟩,
 ⟨some 14,.mov (.tmp 32),none⟩])
 (.seq
 (.seq
 (.reg [] [⟨some 33,.mov (.tmp 10),none⟩,
 ⟨some 34,.cmp .geq (.tmp 33) (.cst (.d (.int .i64 8))),none⟩])
 (.cond (.tmp 34)
 (.seq
 (.seq
 (.reg [] [⟨some 35,.mov (.tmp 10),none⟩,
 ⟨some 36,.cmp .geq (.tmp 35) (.cst (.d (.int .i64 50))),none⟩])
 (.cond (.tmp 36)
 (.seq
 (.reg [] [⟨some 37,.mov (.tmp 0),none⟩,
 ⟨some 38,.mov (.tmp 12),none⟩,
 ⟨some 39,.mov (.tmp 3),none⟩,
 ⟨some 40,.calli 219 [(.tmp 37),(.tmp 38),(.tmp 11),(.tmp 39)],none⟩,
 ⟨some 12,.mov (.tmp 40),none⟩])
 (.seq
 (.reg [] [⟨some 41,.mov (.tmp 0),none⟩,
 ⟨some 42,.mov (.tmp 13),none⟩,
 ⟨some 43,.mov (.tmp 3),none⟩,
 ⟨some 44,.calli 219 [(.tmp 41),(.tmp 42),(.tmp 11),(.tmp 43)],none⟩,
 ⟨some 13,.mov (.tmp 44),none⟩])
 (.reg [] [⟨some 45,.mov (.tmp 0),none⟩,
 ⟨some 46,.mov (.tmp 14),none⟩,
 ⟨some 47,.mov (.tmp 3),none⟩,
 ⟨some 48,.calli 219 [(.tmp 45),(.tmp 46),(.tmp 11),(.tmp 47)],none⟩,
 ⟨some 14,.mov (.tmp 48),none⟩])))
 .skip))
 (.reg [] [⟨some 49,.mov (.tmp 0),none⟩,
 ⟨some 50,.mov (.tmp 12),none⟩,
 ⟨some 51,.mov (.tmp 13),none⟩,
 ⟨some 52,.mov (.tmp 14),none⟩,
 ⟨some 53,.mov (.tmp 3),none⟩,
 ⟨some 54,.calli 220 [(.tmp 49),(.tmp 50),(.tmp 51),(.tmp 52),(.tmp 11),(.tmp 53)],none⟩,
 ⟨some 13,.mov (.tmp 54),none⟩]))
 .skip))
 (.seq
 (.reg [] [⟨some 55,.ld false 1 (.tmp 11),none⟩])
 (.block 0
 (.seq
 (.reg [] [⟨some 58,.cmp .eql (.tmp 55) (.cst (.d (.int .i64 0))),none⟩,
 ⟨some 57,.mov (.tmp 58),none⟩])
 (.cond (.tmp 57)
 (.seq
 (.reg [] [⟨some 59,.mov (.tmp 13),none⟩,
 ⟨some 8,.mov (.tmp 59),none⟩,
 ⟨some 9,.mov (.cst (.d (.int .i64 1))),none⟩])
 .ret)
 (.seq
 (.reg [] [⟨some 61,.cmp .eql (.tmp 55) (.cst (.d (.int .i64 12))),none⟩,
 ⟨some 60,.mov (.tmp 61),none⟩])
 (.cond (.tmp 60)
 (.seq
 (.reg [] [⟨some 62,.mov (.tmp 13),none⟩,
 ⟨some 8,.mov (.tmp 62),none⟩,
 ⟨some 9,.mov (.cst (.d (.int .i64 2))),none⟩])
 .ret)
 (.seq
 (.reg [] [⟨some 56,.mov (.tmp 13),none⟩,
 ⟨some 8,.mov (.tmp 56),none⟩,
 ⟨some 9,.mov (.cst (.d (.int .i64 0))),none⟩])
 .ret))))))))))))))⟩
def tx205:AFun:=⟨34,40,[],
 (.seq
 (.reg [] [⟨some 10,.mov (.tmp 1),none⟩,
 ⟨some 8,.mov (.tmp 10),none⟩])
 (.seq
 (.reg [] [⟨some 11,.mov (.tmp 2),none⟩,
 ⟨some 12,.arith .sub .i64 (.tmp 11) (.cst (.d (.int .i64 1))),none⟩,
 ⟨some 9,.mov (.tmp 12),none⟩])
 (.post [] []
 (.block 0
 (.keep [0,8,9] []
 (.loop
 (.post [0,8,9] []
 (.seq
 (.seq
 (.reg [] [⟨some 13,.mov (.tmp 8),none⟩,
 ⟨some 14,.mov (.tmp 9),none⟩,
 ⟨some 15,.cmp .lss (.tmp 13) (.tmp 14),none⟩])
 (.cond (.tmp 15)
 .skip
 (.exit 0)))
 (.block 1
 (.seq
 (.regd [] [⟨some 16,.mov (.tmp 0),none⟩,
 ⟨some 17,.mov (.tmp 8),none⟩,
 ⟨some 18,.mov (.tmp 0),none⟩,
 ⟨some 19,.mov (.tmp 9),none⟩,
 ⟨some 20,.mov (.tmp 0),none⟩,
 ⟨some 21,.mov (.tmp 9),none⟩,
 ⟨some 22,.ixa 4 (.tmp 20) (.tmp 21),none⟩,
 ⟨some 23,.ld true 4 (.tmp 22),none⟩,
 ⟨some 24,.mov (.tmp 0),none⟩,
 ⟨some 25,.mov (.tmp 8),none⟩,
 ⟨some 26,.ixa 4 (.tmp 24) (.tmp 25),none⟩,
 ⟨some 27,.ld true 4 (.tmp 26),none⟩,
 ⟨some 28,.ixa 4 (.tmp 16) (.tmp 17),none⟩,
 ⟨none,.st 4 (.tmp 28) (.tmp 23),none⟩,
 ⟨some 29,.ixa 4 (.tmp 18) (.tmp 19),none⟩,
 ⟨none,.st 4 (.tmp 29) (.tmp 27),none⟩] [(0,1),(0,2),(1,2),(0,3),(1,3),(2,3),(0,4),(1,4),(2,4),(3,4),(0,5),(1,5),(2,5),(3,5),(4,5),(0,6),(1,6),(2,6),(3,6),(0,7),(1,7),(2,7),(3,7),(0,8),(1,8),(2,8),(3,8),(4,8),(5,8),(6,8),(7,8),(0,9),(1,9),(2,9),(3,9),(4,9),(5,9),(6,9),(7,9),(8,9),(0,10),(1,10),(2,10),(3,10),(4,10),(5,10),(6,10),(7,10),(0,11),(1,11),(2,11),(3,11),(4,11),(5,11),(6,11),(7,11),(2,12),(3,12),(2,13),(3,13)])
 (.seq
 (.reg [] [⟨some 30,.mov (.tmp 8),none⟩,
 ⟨some 31,.arith .add .i64 (.tmp 30) (.cst (.d (.int .i64 1))),none⟩,
 ⟨some 8,.mov (.tmp 31),none⟩])
 (.reg [] [⟨some 32,.mov (.tmp 9),none⟩,
 ⟨some 33,.arith .sub .i64 (.tmp 32) (.cst (.d (.int .i64 1))),none⟩,
 ⟨some 9,.mov (.tmp 33),none⟩]))))))))))))⟩
def tx206:AFun:=⟨141,40,[.tmp 8],
 (.seq
 (.reg [] [⟨some 8,.mov (.cst (.d (.bool false))),none⟩])
 (.seq
 (.reg [] [⟨some 13,.mov (.tmp 1),none⟩,
 ⟨some 14,.arith .add .i64 (.tmp 13) (.cst (.d (.int .i64 1))),none⟩,
 ⟨some 9,.mov (.tmp 14),none⟩])
 (.seq
 (.seq
 (.reg [] [⟨some 10,.mov (.cst (.d (.int .i64 0))),none⟩])
 (.post [] []
 (.block 0
 (.keep [0,1,2,3,9,10] []
 (.loop
 (.post [0,1,2,3,9,10] []
 (.seq
 (.seq
 (.reg [] [⟨some 15,.mov (.tmp 10),none⟩,
 ⟨some 16,.cmp .lss (.tmp 15) (.cst (.d (.int .i64 5))),none⟩])
 (.cond (.tmp 16)
 .skip
 (.exit 0)))
 (.seq
 (.block 1
 (.seq
 (.post [0,1,2,3,9,10] []
 (.block 2
 (.keep [0,1,2,3,9,10] []
 (.loop
 (.post [0,1,2,3,9,10] []
 (.seq
 (.seq
 (.regd [] [⟨some 19,.mov (.tmp 9),none⟩,
 ⟨some 20,.mov (.tmp 2),none⟩,
 ⟨some 21,.cmp .lss (.tmp 19) (.tmp 20),none⟩,
 ⟨some 22,.mov (.tmp 21),none⟩,
 ⟨some 23,.mov (.tmp 3),some (22,true)⟩,
 ⟨some 24,.mov (.tmp 0),some (22,true)⟩,
 ⟨some 25,.mov (.tmp 9),some (22,true)⟩,
 ⟨some 26,.ixa 4 (.tmp 24) (.tmp 25),some (22,true)⟩,
 ⟨some 27,.ld true 4 (.tmp 26),some (22,true)⟩,
 ⟨some 28,.mov (.tmp 0),some (22,true)⟩,
 ⟨some 29,.mov (.tmp 9),some (22,true)⟩,
 ⟨some 30,.arith .sub .i64 (.tmp 29) (.cst (.d (.int .i64 1))),some (22,true)⟩,
 ⟨some 31,.ixa 4 (.tmp 28) (.tmp 30),some (22,true)⟩,
 ⟨some 32,.ld true 4 (.tmp 31),some (22,true)⟩,
 ⟨some 33,.callv (.tmp 23) [(.tmp 27),(.tmp 32)],some (22,true)⟩,
 ⟨some 34,.cmp .lss (.tmp 33) (.cst (.d (.int .i64 0))),some (22,true)⟩,
 ⟨some 35,.not (.tmp 34),some (22,true)⟩,
 ⟨some 36,.pick (.tmp 22) (.tmp 35) (.cst (.d (.bool false))),none⟩] [(0,1),(4,5),(4,6),(5,6),(4,7),(4,8),(4,9),(5,9),(6,9),(7,9),(8,9),(4,10),(5,10),(6,10),(7,10),(8,10),(9,10),(4,11),(5,11),(6,11),(7,11),(8,11),(9,11),(4,12),(5,12),(6,12),(7,12),(8,12),(4,13),(5,13),(6,13),(7,13),(8,13)])
 (.cond (.tmp 36)
 .skip
 (.exit 2)))
 (.block 3
 (.reg [] [⟨some 37,.mov (.tmp 9),none⟩,
 ⟨some 38,.arith .add .i64 (.tmp 37) (.cst (.d (.int .i64 1))),none⟩,
 ⟨some 9,.mov (.tmp 38),none⟩]))))))))
 (.seq
 (.seq
 (.reg [] [⟨some 39,.mov (.tmp 9),none⟩,
 ⟨some 40,.mov (.tmp 2),none⟩,
 ⟨some 41,.cmp .eql (.tmp 39) (.tmp 40),none⟩])
 (.cond (.tmp 41)
 (.seq
 (.reg [] [⟨some 8,.mov (.cst (.d (.bool true))),none⟩])
 .ret)
 .skip))
 (.seq
 (.seq
 (.reg [] [⟨some 42,.mov (.tmp 2),none⟩,
 ⟨some 43,.mov (.tmp 1),none⟩,
 ⟨some 44,.arith .sub .i64 (.tmp 42) (.tmp 43),none⟩,
 ⟨some 45,.cmp .lss (.tmp 44) (.cst (.d (.int .i64 50))),none⟩])
 (.cond (.tmp 45)
 (.seq
 (.reg [] [⟨some 8,.mov (.cst (.d (.bool false))),none⟩])
 .ret)
 .skip))
 (.seq
 (.regd [] [⟨some 46,.mov (.tmp 0),none⟩,
 ⟨some 47,.mov (.tmp 9),none⟩,
 ⟨some 48,.mov (.tmp 0),none⟩,
 ⟨some 49,.mov (.tmp 9),none⟩,
 ⟨some 50,.arith .sub .i64 (.tmp 49) (.cst (.d (.int .i64 1))),none⟩,
 ⟨some 51,.mov (.tmp 0),none⟩,
 ⟨some 52,.mov (.tmp 9),none⟩,
 ⟨some 53,.arith .sub .i64 (.tmp 52) (.cst (.d (.int .i64 1))),none⟩,
 ⟨some 54,.ixa 4 (.tmp 51) (.tmp 53),none⟩,
 ⟨some 55,.ld true 4 (.tmp 54),none⟩,
 ⟨some 56,.mov (.tmp 0),none⟩,
 ⟨some 57,.mov (.tmp 9),none⟩,
 ⟨some 58,.ixa 4 (.tmp 56) (.tmp 57),none⟩,
 ⟨some 59,.ld true 4 (.tmp 58),none⟩,
 ⟨some 60,.ixa 4 (.tmp 46) (.tmp 47),none⟩,
 ⟨none,.st 4 (.tmp 60) (.tmp 55),none⟩,
 ⟨some 61,.ixa 4 (.tmp 48) (.tmp 50),none⟩,
 ⟨none,.st 4 (.tmp 61) (.tmp 59),none⟩] [(0,1),(0,2),(1,2),(0,3),(1,3),(2,3),(0,4),(1,4),(2,4),(0,5),(1,5),(2,5),(3,5),(4,5),(0,6),(1,6),(2,6),(3,6),(4,6),(5,6),(0,7),(1,7),(2,7),(3,7),(4,7),(5,7),(0,8),(1,8),(2,8),(3,8),(4,8),(0,9),(1,9),(2,9),(3,9),(4,9),(0,10),(1,10),(2,10),(3,10),(4,10),(5,10),(6,10),(7,10),(8,10),(9,10),(0,11),(1,11),(2,11),(3,11),(4,11),(5,11),(6,11),(7,11),(8,11),(9,11),(10,11),(0,12),(1,12),(2,12),(3,12),(4,12),(5,12),(6,12),(7,12),(8,12),(9,12),(0,13),(1,13),(2,13),(3,13),(4,13),(5,13),(6,13),(7,13),(8,13),(9,13),(2,14),(3,14),(4,14),(2,15),(3,15),(4,15)])
 (.seq
 (.seq
 (.reg [] [⟨some 62,.mov (.tmp 9),none⟩,
 ⟨some 63,.mov (.tmp 1),none⟩,
 ⟨some 64,.arith .sub .i64 (.tmp 62) (.tmp 63),none⟩,
 ⟨some 65,.cmp .geq (.tmp 64) (.cst (.d (.int .i64 2))),none⟩])
 (.cond (.tmp 65)
 (.seq
 (.reg [] [⟨some 66,.mov (.tmp 9),none⟩,
 ⟨some 67,.arith .sub .i64 (.tmp 66) (.cst (.d (.int .i64 1))),none⟩,
 ⟨some 11,.mov (.tmp 67),none⟩])
 (.post [0,1,2,3,9,10] []
 (.block 4
 (.keep [0,1,2,3,9,10,11] []
 (.loop
 (.post [0,1,2,3,9,10,11] []
 (.seq
 (.seq
 (.reg [] [⟨some 68,.mov (.tmp 11),none⟩,
 ⟨some 69,.cmp .geq (.tmp 68) (.cst (.d (.int .i64 1))),none⟩])
 (.cond (.tmp 69)
 .skip
 (.exit 4)))
 (.seq
 (.block 5
 (.seq
 (.seq
 (.regd [] [⟨some 72,.mov (.tmp 3),none⟩,
 ⟨some 73,.mov (.tmp 0),none⟩,
 ⟨some 74,.mov (.tmp 11),none⟩,
 ⟨some 75,.ixa 4 (.tmp 73) (.tmp 74),none⟩,
 ⟨some 76,.ld true 4 (.tmp 75),none⟩,
 ⟨some 77,.mov (.tmp 0),none⟩,
 ⟨some 78,.mov (.tmp 11),none⟩,
 ⟨some 79,.arith .sub .i64 (.tmp 78) (.cst (.d (.int .i64 1))),none⟩,
 ⟨some 80,.ixa 4 (.tmp 77) (.tmp 79),none⟩,
 ⟨some 81,.ld true 4 (.tmp 80),none⟩,
 ⟨some 82,.callv (.tmp 72) [(.tmp 76),(.tmp 81)],none⟩,
 ⟨some 83,.cmp .lss (.tmp 82) (.cst (.d (.int .i64 0))),none⟩,
 ⟨some 84,.not (.tmp 83),none⟩] [(0,1),(0,2),(1,2),(0,3),(0,4),(0,5),(1,5),(2,5),(3,5),(4,5),(0,6),(1,6),(2,6),(3,6),(4,6),(5,6),(0,7),(1,7),(2,7),(3,7),(4,7),(5,7),(0,8),(1,8),(2,8),(3,8),(4,8),(0,9),(1,9),(2,9),(3,9),(4,9)])
 (.cond (.tmp 84)
 (.exit 4)
 .skip))
 (.regd [] [⟨some 85,.mov (.tmp 0),none⟩,
 ⟨some 86,.mov (.tmp 11),none⟩,
 ⟨some 87,.mov (.tmp 0),none⟩,
 ⟨some 88,.mov (.tmp 11),none⟩,
 ⟨some 89,.arith .sub .i64 (.tmp 88) (.cst (.d (.int .i64 1))),none⟩,
 ⟨some 90,.mov (.tmp 0),none⟩,
 ⟨some 91,.mov (.tmp 11),none⟩,
 ⟨some 92,.arith .sub .i64 (.tmp 91) (.cst (.d (.int .i64 1))),none⟩,
 ⟨some 93,.ixa 4 (.tmp 90) (.tmp 92),none⟩,
 ⟨some 94,.ld true 4 (.tmp 93),none⟩,
 ⟨some 95,.mov (.tmp 0),none⟩,
 ⟨some 96,.mov (.tmp 11),none⟩,
 ⟨some 97,.ixa 4 (.tmp 95) (.tmp 96),none⟩,
 ⟨some 98,.ld true 4 (.tmp 97),none⟩,
 ⟨some 99,.ixa 4 (.tmp 85) (.tmp 86),none⟩,
 ⟨none,.st 4 (.tmp 99) (.tmp 94),none⟩,
 ⟨some 100,.ixa 4 (.tmp 87) (.tmp 89),none⟩,
 ⟨none,.st 4 (.tmp 100) (.tmp 98),none⟩] [(0,1),(0,2),(1,2),(0,3),(1,3),(2,3),(0,4),(1,4),(2,4),(0,5),(1,5),(2,5),(3,5),(4,5),(0,6),(1,6),(2,6),(3,6),(4,6),(5,6),(0,7),(1,7),(2,7),(3,7),(4,7),(5,7),(0,8),(1,8),(2,8),(3,8),(4,8),(0,9),(1,9),(2,9),(3,9),(4,9),(0,10),(1,10),(2,10),(3,10),(4,10),(5,10),(6,10),(7,10),(8,10),(9,10),(0,11),(1,11),(2,11),(3,11),(4,11),(5,11),(6,11),(7,11),(8,11),(9,11),(10,11),(0,12),(1,12),(2,12),(3,12),(4,12),(5,12),(6,12),(7,12),(8,12),(9,12),(0,13),(1,13),(2,13),(3,13),(4,13),(5,13),(6,13),(7,13),(8,13),(9,13),(2,14),(3,14),(4,14),(2,15),(3,15),(4,15)])))
 (.reg [] [⟨some 70,.mov (.tmp 11),none⟩,
 ⟨some 71,.arith .sub .i64 (.tmp 70) (.cst (.d (.int .i64 1))),none⟩,
 ⟨some 11,.mov (.tmp 71),none⟩])))))))))
 .skip))
 (.seq
 (.reg [] [⟨some 101,.mov (.tmp 2),none⟩,
 ⟨some 102,.mov (.tmp 9),none⟩,
 ⟨some 103,.arith .sub .i64 (.tmp 101) (.tmp 102),none⟩,
 ⟨some 104,.cmp .geq (.tmp 103) (.cst (.d (.int .i64 2))),none⟩])
 (.cond (.tmp 104)
 (.seq
 (.reg [] [⟨some 105,.mov (.tmp 9),none⟩,
 ⟨some 106,.arith .add .i64 (.tmp 105) (.cst (.d (.int .i64 1))),none⟩,
 ⟨some 12,.mov (.tmp 106),none⟩])
 (.post [0,1,2,3,9,10] []
 (.block 6
 (.keep [0,1,2,3,9,10,12] []
 (.loop
 (.post [0,1,2,3,9,10,12] []
 (.seq
 (.seq
 (.reg [] [⟨some 107,.mov (.tmp 12),none⟩,
 ⟨some 108,.mov (.tmp 2),none⟩,
 ⟨some 109,.cmp .lss (.tmp 107) (.tmp 108),none⟩])
 (.cond (.tmp 109)
 .skip
 (.exit 6)))
 (.seq
 (.block 7
 (.seq
 (.seq
 (.regd [] [⟨some 112,.mov (.tmp 3),none⟩,
 ⟨some 113,.mov (.tmp 0),none⟩,
 ⟨some 114,.mov (.tmp 12),none⟩,
 ⟨some 115,.ixa 4 (.tmp 113) (.tmp 114),none⟩,
 ⟨some 116,.ld true 4 (.tmp 115),none⟩,
 ⟨some 117,.mov (.tmp 0),none⟩,
 ⟨some 118,.mov (.tmp 12),none⟩,
 ⟨some 119,.arith .sub .i64 (.tmp 118) (.cst (.d (.int .i64 1))),none⟩,
 ⟨some 120,.ixa 4 (.tmp 117) (.tmp 119),none⟩,
 ⟨some 121,.ld true 4 (.tmp 120),none⟩,
 ⟨some 122,.callv (.tmp 112) [(.tmp 116),(.tmp 121)],none⟩,
 ⟨some 123,.cmp .lss (.tmp 122) (.cst (.d (.int .i64 0))),none⟩,
 ⟨some 124,.not (.tmp 123),none⟩] [(0,1),(0,2),(1,2),(0,3),(0,4),(0,5),(1,5),(2,5),(3,5),(4,5),(0,6),(1,6),(2,6),(3,6),(4,6),(5,6),(0,7),(1,7),(2,7),(3,7),(4,7),(5,7),(0,8),(1,8),(2,8),(3,8),(4,8),(0,9),(1,9),(2,9),(3,9),(4,9)])
 (.cond (.tmp 124)
 (.exit 6)
 .skip))
 (.regd [] [⟨some 125,.mov (.tmp 0),none⟩,
 ⟨some 126,.mov (.tmp 12),none⟩,
 ⟨some 127,.mov (.tmp 0),none⟩,
 ⟨some 128,.mov (.tmp 12),none⟩,
 ⟨some 129,.arith .sub .i64 (.tmp 128) (.cst (.d (.int .i64 1))),none⟩,
 ⟨some 130,.mov (.tmp 0),none⟩,
 ⟨some 131,.mov (.tmp 12),none⟩,
 ⟨some 132,.arith .sub .i64 (.tmp 131) (.cst (.d (.int .i64 1))),none⟩,
 ⟨some 133,.ixa 4 (.tmp 130) (.tmp 132),none⟩,
 ⟨some 134,.ld true 4 (.tmp 133),none⟩,
 ⟨some 135,.mov (.tmp 0),none⟩,
 ⟨some 136,.mov (.tmp 12),none⟩,
 ⟨some 137,.ixa 4 (.tmp 135) (.tmp 136),none⟩,
 ⟨some 138,.ld true 4 (.tmp 137),none⟩,
 ⟨some 139,.ixa 4 (.tmp 125) (.tmp 126),none⟩,
 ⟨none,.st 4 (.tmp 139) (.tmp 134),none⟩,
 ⟨some 140,.ixa 4 (.tmp 127) (.tmp 129),none⟩,
 ⟨none,.st 4 (.tmp 140) (.tmp 138),none⟩] [(0,1),(0,2),(1,2),(0,3),(1,3),(2,3),(0,4),(1,4),(2,4),(0,5),(1,5),(2,5),(3,5),(4,5),(0,6),(1,6),(2,6),(3,6),(4,6),(5,6),(0,7),(1,7),(2,7),(3,7),(4,7),(5,7),(0,8),(1,8),(2,8),(3,8),(4,8),(0,9),(1,9),(2,9),(3,9),(4,9),(0,10),(1,10),(2,10),(3,10),(4,10),(5,10),(6,10),(7,10),(8,10),(9,10),(0,11),(1,11),(2,11),(3,11),(4,11),(5,11),(6,11),(7,11),(8,11),(9,11),(10,11),(0,12),(1,12),(2,12),(3,12),(4,12),(5,12),(6,12),(7,12),(8,12),(9,12),(0,13),(1,13),(2,13),(3,13),(4,13),(5,13),(6,13),(7,13),(8,13),(9,13),(2,14),(3,14),(4,14),(2,15),(3,15),(4,15)])))
 (.reg [] [⟨some 110,.mov (.tmp 12),none⟩,
 ⟨some 111,.arith .add .i64 (.tmp 110) (.cst (.d (.int .i64 1))),none⟩,
 ⟨some 12,.mov (.tmp 111),none⟩])))))))))
 .skip))))))))
 (.reg [] [⟨some 17,.mov (.tmp 10),none⟩,
 ⟨some 18,.arith .add .i64 (.tmp 17) (.cst (.d (.int .i64 1))),none⟩,
 ⟨some 10,.mov (.tmp 18),none⟩])))))))))
 (.seq
 (.reg [] [⟨some 8,.mov (.cst (.d (.bool false))),none⟩])
 .ret))))⟩
def tx207:AFun:=⟨90,40,[.tmp 10],
 (.seq
 (.reg [] [⟨some 10,.mov (.cst (.d (.int .i64 0))),none⟩])
 (.seq
 (.regd [] [⟨some 13,.mov (.tmp 0),none⟩,
 ⟨some 14,.mov (.tmp 1),none⟩,
 ⟨some 15,.mov (.tmp 0),none⟩,
 ⟨some 16,.mov (.tmp 3),none⟩,
 ⟨some 17,.mov (.tmp 0),none⟩,
 ⟨some 18,.mov (.tmp 3),none⟩,
 ⟨some 19,.ixa 4 (.tmp 17) (.tmp 18),none⟩,
 ⟨some 20,.ld true 4 (.tmp 19),none⟩,
 ⟨some 21,.mov (.tmp 0),none⟩,
 ⟨some 22,.mov (.tmp 1),none⟩,
 ⟨some 23,.ixa 4 (.tmp 21) (.tmp 22),none⟩,
 ⟨some 24,.ld true 4 (.tmp 23),none⟩,
 ⟨some 25,.ixa 4 (.tmp 13) (.tmp 14),none⟩,
 ⟨none,.st 4 (.tmp 25) (.tmp 20),none⟩,
 ⟨some 26,.ixa 4 (.tmp 15) (.tmp 16),none⟩,
 ⟨none,.st 4 (.tmp 26) (.tmp 24),none⟩] [(0,1),(0,2),(1,2),(0,3),(1,3),(2,3),(0,4),(1,4),(2,4),(3,4),(0,5),(1,5),(2,5),(3,5),(4,5),(0,6),(1,6),(2,6),(3,6),(0,7),(1,7),(2,7),(3,7),(0,8),(1,8),(2,8),(3,8),(4,8),(5,8),(6,8),(7,8),(0,9),(1,9),(2,9),(3,9),(4,9),(5,9),(6,9),(7,9),(8,9),(0,10),(1,10),(2,10),(3,10),(4,10),(5,10),(6,10),(7,10),(0,11),(1,11),(2,11),(3,11),(4,11),(5,11),(6,11),(7,11),(2,12),(3,12),(2,13),(3,13)])
 (.seq
 (.reg [] [⟨some 27,.mov (.tmp 1),none⟩,
 ⟨some 28,.arith .add .i64 (.tmp 27) (.cst (.d (.int .i64 1))),none⟩,
 ⟨some 29,.mov (.tmp 2),none⟩,
 ⟨some 30,.arith .sub .i64 (.tmp 29) (.cst (.d (.int .i64 1))),none⟩,
 ⟨some 11,.mov (.tmp 28),none⟩,
 ⟨some 12,.mov (.tmp 30),none⟩])
 (.seq
 (.post [11] []
 (.block 0
 (.keep [0,1,4,11,12] []
 (.loop
 (.post [0,1,4,11,12] []
 (.block 1
 (.seq
 (.post [0,1,4,11,12] []
 (.block 2
 (.keep [0,1,4,11,12] []
 (.loop
 (.post [0,1,4,11,12] []
 (.seq
 (.seq
 (.regd [] [⟨some 31,.mov (.tmp 11),none⟩,
 ⟨some 32,.mov (.tmp 12),none⟩,
 ⟨some 33,.cmp .leq (.tmp 31) (.tmp 32),none⟩,
 ⟨some 34,.mov (.tmp 33),none⟩,
 ⟨some 35,.mov (.tmp 4),some (34,true)⟩,
 ⟨some 36,.mov (.tmp 0),some (34,true)⟩,
 ⟨some 37,.mov (.tmp 1),some (34,true)⟩,
 ⟨some 38,.ixa 4 (.tmp 36) (.tmp 37),some (34,true)⟩,
 ⟨some 39,.ld true 4 (.tmp 38),some (34,true)⟩,
 ⟨some 40,.mov (.tmp 0),some (34,true)⟩,
 ⟨some 41,.mov (.tmp 11),some (34,true)⟩,
 ⟨some 42,.ixa 4 (.tmp 40) (.tmp 41),some (34,true)⟩,
 ⟨some 43,.ld true 4 (.tmp 42),some (34,true)⟩,
 ⟨some 44,.callv (.tmp 35) [(.tmp 39),(.tmp 43)],some (34,true)⟩,
 ⟨some 45,.cmp .lss (.tmp 44) (.cst (.d (.int .i64 0))),some (34,true)⟩,
 ⟨some 46,.not (.tmp 45),some (34,true)⟩,
 ⟨some 47,.pick (.tmp 34) (.tmp 46) (.cst (.d (.bool false))),none⟩] [(0,1),(4,5),(4,6),(5,6),(4,7),(4,8),(4,9),(5,9),(6,9),(7,9),(8,9),(4,10),(5,10),(6,10),(7,10),(8,10),(9,10),(4,11),(5,11),(6,11),(7,11),(8,11),(4,12),(5,12),(6,12),(7,12),(8,12)])
 (.cond (.tmp 47)
 .skip
 (.exit 2)))
 (.block 3
 (.reg [] [⟨some 48,.mov (.tmp 11),none⟩,
 ⟨some 49,.arith .add .i64 (.tmp 48) (.cst (.d (.int .i64 1))),none⟩,
 ⟨some 11,.mov (.tmp 49),none⟩]))))))))
 (.seq
 (.post [0,1,4,11,12] []
 (.block 4
 (.keep [0,1,4,11,12] []
 (.loop
 (.post [0,1,4,11,12] []
 (.seq
 (.seq
 (.regd [] [⟨some 50,.mov (.tmp 11),none⟩,
 ⟨some 51,.mov (.tmp 12),none⟩,
 ⟨some 52,.cmp .leq (.tmp 50) (.tmp 51),none⟩,
 ⟨some 53,.mov (.tmp 52),none⟩,
 ⟨some 54,.mov (.tmp 4),some (53,true)⟩,
 ⟨some 55,.mov (.tmp 0),some (53,true)⟩,
 ⟨some 56,.mov (.tmp 1),some (53,true)⟩,
 ⟨some 57,.ixa 4 (.tmp 55) (.tmp 56),some (53,true)⟩,
 ⟨some 58,.ld true 4 (.tmp 57),some (53,true)⟩,
 ⟨some 59,.mov (.tmp 0),some (53,true)⟩,
 ⟨some 60,.mov (.tmp 12),some (53,true)⟩,
 ⟨some 61,.ixa 4 (.tmp 59) (.tmp 60),some (53,true)⟩,
 ⟨some 62,.ld true 4 (.tmp 61),some (53,true)⟩,
 ⟨some 63,.callv (.tmp 54) [(.tmp 58),(.tmp 62)],some (53,true)⟩,
 ⟨some 64,.cmp .lss (.tmp 63) (.cst (.d (.int .i64 0))),some (53,true)⟩,
 ⟨some 65,.pick (.tmp 53) (.tmp 64) (.cst (.d (.bool false))),none⟩] [(0,1),(4,5),(4,6),(5,6),(4,7),(4,8),(4,9),(5,9),(6,9),(7,9),(8,9),(4,10),(5,10),(6,10),(7,10),(8,10),(9,10),(4,11),(5,11),(6,11),(7,11),(8,11),(4,12),(5,12),(6,12),(7,12),(8,12)])
 (.cond (.tmp 65)
 .skip
 (.exit 4)))
 (.block 5
 (.reg [] [⟨some 66,.mov (.tmp 12),none⟩,
 ⟨some 67,.arith .sub .i64 (.tmp 66) (.cst (.d (.int .i64 1))),none⟩,
 ⟨some 12,.mov (.tmp 67),none⟩]))))))))
 (.seq
 (.seq
 (.reg [] [⟨some 68,.mov (.tmp 11),none⟩,
 ⟨some 69,.mov (.tmp 12),none⟩,
 ⟨some 70,.cmp .gtr (.tmp 68) (.tmp 69),none⟩])
 (.cond (.tmp 70)
 (.exit 0)
 .skip))
 (.seq
 (.regd [] [⟨some 71,.mov (.tmp 0),none⟩,
 ⟨some 72,.mov (.tmp 11),none⟩,
 ⟨some 73,.mov (.tmp 0),none⟩,
 ⟨some 74,.mov (.tmp 12),none⟩,
 ⟨some 75,.mov (.tmp 0),none⟩,
 ⟨some 76,.mov (.tmp 12),none⟩,
 ⟨some 77,.ixa 4 (.tmp 75) (.tmp 76),none⟩,
 ⟨some 78,.ld true 4 (.tmp 77),none⟩,
 ⟨some 79,.mov (.tmp 0),none⟩,
 ⟨some 80,.mov (.tmp 11),none⟩,
 ⟨some 81,.ixa 4 (.tmp 79) (.tmp 80),none⟩,
 ⟨some 82,.ld true 4 (.tmp 81),none⟩,
 ⟨some 83,.ixa 4 (.tmp 71) (.tmp 72),none⟩,
 ⟨none,.st 4 (.tmp 83) (.tmp 78),none⟩,
 ⟨some 84,.ixa 4 (.tmp 73) (.tmp 74),none⟩,
 ⟨none,.st 4 (.tmp 84) (.tmp 82),none⟩] [(0,1),(0,2),(1,2),(0,3),(1,3),(2,3),(0,4),(1,4),(2,4),(3,4),(0,5),(1,5),(2,5),(3,5),(4,5),(0,6),(1,6),(2,6),(3,6),(0,7),(1,7),(2,7),(3,7),(0,8),(1,8),(2,8),(3,8),(4,8),(5,8),(6,8),(7,8),(0,9),(1,9),(2,9),(3,9),(4,9),(5,9),(6,9),(7,9),(8,9),(0,10),(1,10),(2,10),(3,10),(4,10),(5,10),(6,10),(7,10),(0,11),(1,11),(2,11),(3,11),(4,11),(5,11),(6,11),(7,11),(2,12),(3,12),(2,13),(3,13)])
 (.seq
 (.reg [] [⟨some 85,.mov (.tmp 11),none⟩,
 ⟨some 86,.arith .add .i64 (.tmp 85) (.cst (.d (.int .i64 1))),none⟩,
 ⟨some 11,.mov (.tmp 86),none⟩])
 (.reg [] [⟨some 87,.mov (.tmp 12),none⟩,
 ⟨some 88,.arith .sub .i64 (.tmp 87) (.cst (.d (.int .i64 1))),none⟩,
 ⟨some 12,.mov (.tmp 88),none⟩]))))))))))))
 (.seq
 (.reg [] [⟨some 89,.mov (.tmp 11),none⟩,
 ⟨some 10,.mov (.tmp 89),none⟩])
 .ret)))))⟩
def tx208:AFun:=⟨178,40,[.tmp 10,.tmp 11],
 (.seq
 (.reg [] [⟨some 10,.mov (.cst (.d (.int .i64 0))),none⟩,
 ⟨some 11,.mov (.cst (.d (.bool false))),none⟩])
 (.seq
 (.regd [] [⟨some 14,.mov (.tmp 0),none⟩,
 ⟨some 15,.mov (.tmp 1),none⟩,
 ⟨some 16,.mov (.tmp 0),none⟩,
 ⟨some 17,.mov (.tmp 3),none⟩,
 ⟨some 18,.mov (.tmp 0),none⟩,
 ⟨some 19,.mov (.tmp 3),none⟩,
 ⟨some 20,.ixa 4 (.tmp 18) (.tmp 19),none⟩,
 ⟨some 21,.ld true 4 (.tmp 20),none⟩,
 ⟨some 22,.mov (.tmp 0),none⟩,
 ⟨some 23,.mov (.tmp 1),none⟩,
 ⟨some 24,.ixa 4 (.tmp 22) (.tmp 23),none⟩,
 ⟨some 25,.ld true 4 (.tmp 24),none⟩,
 ⟨some 26,.ixa 4 (.tmp 14) (.tmp 15),none⟩,
 ⟨none,.st 4 (.tmp 26) (.tmp 21),none⟩,
 ⟨some 27,.ixa 4 (.tmp 16) (.tmp 17),none⟩,
 ⟨none,.st 4 (.tmp 27) (.tmp 25),none⟩] [(0,1),(0,2),(1,2),(0,3),(1,3),(2,3),(0,4),(1,4),(2,4),(3,4),(0,5),(1,5),(2,5),(3,5),(4,5),(0,6),(1,6),(2,6),(3,6),(0,7),(1,7),(2,7),(3,7),(0,8),(1,8),(2,8),(3,8),(4,8),(5,8),(6,8),(7,8),(0,9),(1,9),(2,9),(3,9),(4,9),(5,9),(6,9),(7,9),(8,9),(0,10),(1,10),(2,10),(3,10),(4,10),(5,10),(6,10),(7,10),(0,11),(1,11),(2,11),(3,11),(4,11),(5,11),(6,11),(7,11),(2,12),(3,12),(2,13),(3,13)])
 (.seq
 (.reg [] [⟨some 28,.mov (.tmp 1),none⟩,
 ⟨some 29,.arith .add .i64 (.tmp 28) (.cst (.d (.int .i64 1))),none⟩,
 ⟨some 30,.mov (.tmp 2),none⟩,
 ⟨some 31,.arith .sub .i64 (.tmp 30) (.cst (.d (.int .i64 1))),none⟩,
 ⟨some 12,.mov (.tmp 29),none⟩,
 ⟨some 13,.mov (.tmp 31),none⟩])
 (.seq
 (.post [0,1,4,12,13] []
 (.block 0
 (.keep [0,1,4,12,13] []
 (.loop
 (.post [0,1,4,12,13] []
 (.seq
 (.seq
 (.regd [] [⟨some 32,.mov (.tmp 12),none⟩,
 ⟨some 33,.mov (.tmp 13),none⟩,
 ⟨some 34,.cmp .leq (.tmp 32) (.tmp 33),none⟩,
 ⟨some 35,.mov (.tmp 34),none⟩,
 ⟨some 36,.mov (.tmp 4),some (35,true)⟩,
 ⟨some 37,.mov (.tmp 0),some (35,true)⟩,
 ⟨some 38,.mov (.tmp 12),some (35,true)⟩,
 ⟨some 39,.ixa 4 (.tmp 37) (.tmp 38),some (35,true)⟩,
 ⟨some 40,.ld true 4 (.tmp 39),some (35,true)⟩,
 ⟨some 41,.mov (.tmp 0),some (35,true)⟩,
 ⟨some 42,.mov (.tmp 1),some (35,true)⟩,
 ⟨some 43,.ixa 4 (.tmp 41) (.tmp 42),some (35,true)⟩,
 ⟨some 44,.ld true 4 (.tmp 43),some (35,true)⟩,
 ⟨some 45,.callv (.tmp 36) [(.tmp 40),(.tmp 44)],some (35,true)⟩,
 ⟨some 46,.cmp .lss (.tmp 45) (.cst (.d (.int .i64 0))),some (35,true)⟩,
 ⟨some 47,.pick (.tmp 35) (.tmp 46) (.cst (.d (.bool false))),none⟩] [(0,1),(4,5),(4,6),(5,6),(4,7),(4,8),(4,9),(5,9),(6,9),(7,9),(8,9),(4,10),(5,10),(6,10),(7,10),(8,10),(9,10),(4,11),(5,11),(6,11),(7,11),(8,11),(4,12),(5,12),(6,12),(7,12),(8,12)])
 (.cond (.tmp 47)
 .skip
 (.exit 0)))
 (.block 1
 (.reg [] [⟨some 48,.mov (.tmp 12),none⟩,
 ⟨some 49,.arith .add .i64 (.tmp 48) (.cst (.d (.int .i64 1))),none⟩,
 ⟨some 12,.mov (.tmp 49),none⟩]))))))))
 (.seq
 (.post [0,1,4,12,13] []
 (.block 2
 (.keep [0,1,4,12,13] []
 (.loop
 (.post [0,1,4,12,13] []
 (.seq
 (.seq
 (.regd [] [⟨some 50,.mov (.tmp 12),none⟩,
 ⟨some 51,.mov (.tmp 13),none⟩,
 ⟨some 52,.cmp .leq (.tmp 50) (.tmp 51),none⟩,
 ⟨some 53,.mov (.tmp 52),none⟩,
 ⟨some 54,.mov (.tmp 4),some (53,true)⟩,
 ⟨some 55,.mov (.tmp 0),some (53,true)⟩,
 ⟨some 56,.mov (.tmp 13),some (53,true)⟩,
 ⟨some 57,.ixa 4 (.tmp 55) (.tmp 56),some (53,true)⟩,
 ⟨some 58,.ld true 4 (.tmp 57),some (53,true)⟩,
 ⟨some 59,.mov (.tmp 0),some (53,true)⟩,
 ⟨some 60,.mov (.tmp 1),some (53,true)⟩,
 ⟨some 61,.ixa 4 (.tmp 59) (.tmp 60),some (53,true)⟩,
 ⟨some 62,.ld true 4 (.tmp 61),some (53,true)⟩,
 ⟨some 63,.callv (.tmp 54) [(.tmp 58),(.tmp 62)],some (53,true)⟩,
 ⟨some 64,.cmp .lss (.tmp 63) (.cst (.d (.int .i64 0))),some (53,true)⟩,
 ⟨some 65,.not (.tmp 64),some (53,true)⟩,
 ⟨some 66,.pick (.tmp 53) (.tmp 65) (.cst (.d (.bool false))),none⟩] [(0,1),(4,5),(4,6),(5,6),(4,7),(4,8),(4,9),(5,9),(6,9),(7,9),(8,9),(4,10),(5,10),(6,10),(7,10),(8,10),(9,10),(4,11),(5,11),(6,11),(7,11),(8,11),(4,12),(5,12),(6,12),(7,12),(8,12)])
 (.cond (.tmp 66)
 .skip
 (.exit 2)))
 (.block 3
 (.reg [] [⟨some 67,.mov (.tmp 13),none⟩,
 ⟨some 68,.arith .sub .i64 (.tmp 67) (.cst (.d (.int .i64 1))),none⟩,
 ⟨some 13,.mov (.tmp 68),none⟩]))))))))
 (.seq
 (.seq
 (.reg [] [⟨some 69,.mov (.tmp 12),none⟩,
 ⟨some 70,.mov (.tmp 13),none⟩,
 ⟨some 71,.cmp .gtr (.tmp 69) (.tmp 70),none⟩])
 (.cond (.tmp 71)
 (.seq
 (.regd [] [⟨some 72,.mov (.tmp 0),none⟩,
 ⟨some 73,.mov (.tmp 13),none⟩,
 ⟨some 74,.mov (.tmp 0),none⟩,
 ⟨some 75,.mov (.tmp 1),none⟩,
 ⟨some 76,.mov (.tmp 0),none⟩,
 ⟨some 77,.mov (.tmp 1),none⟩,
 ⟨some 78,.ixa 4 (.tmp 76) (.tmp 77),none⟩,
 ⟨some 79,.ld true 4 (.tmp 78),none⟩,
 ⟨some 80,.mov (.tmp 0),none⟩,
 ⟨some 81,.mov (.tmp 13),none⟩,
 ⟨some 82,.ixa 4 (.tmp 80) (.tmp 81),none⟩,
 ⟨some 83,.ld true 4 (.tmp 82),none⟩,
 ⟨some 84,.ixa 4 (.tmp 72) (.tmp 73),none⟩,
 ⟨none,.st 4 (.tmp 84) (.tmp 79),none⟩,
 ⟨some 85,.ixa 4 (.tmp 74) (.tmp 75),none⟩,
 ⟨none,.st 4 (.tmp 85) (.tmp 83),none⟩] [(0,1),(0,2),(1,2),(0,3),(1,3),(2,3),(0,4),(1,4),(2,4),(3,4),(0,5),(1,5),(2,5),(3,5),(4,5),(0,6),(1,6),(2,6),(3,6),(0,7),(1,7),(2,7),(3,7),(0,8),(1,8),(2,8),(3,8),(4,8),(5,8),(6,8),(7,8),(0,9),(1,9),(2,9),(3,9),(4,9),(5,9),(6,9),(7,9),(8,9),(0,10),(1,10),(2,10),(3,10),(4,10),(5,10),(6,10),(7,10),(0,11),(1,11),(2,11),(3,11),(4,11),(5,11),(6,11),(7,11),(2,12),(3,12),(2,13),(3,13)])
 (.seq
 (.reg [] [⟨some 86,.mov (.tmp 13),none⟩,
 ⟨some 10,.mov (.tmp 86),none⟩,
 ⟨some 11,.mov (.cst (.d (.bool true))),none⟩])
 .ret))
 .skip))
 (.seq
 (.regd [] [⟨some 87,.mov (.tmp 0),none⟩,
 ⟨some 88,.mov (.tmp 12),none⟩,
 ⟨some 89,.mov (.tmp 0),none⟩,
 ⟨some 90,.mov (.tmp 13),none⟩,
 ⟨some 91,.mov (.tmp 0),none⟩,
 ⟨some 92,.mov (.tmp 13),none⟩,
 ⟨some 93,.ixa 4 (.tmp 91) (.tmp 92),none⟩,
 ⟨some 94,.ld true 4 (.tmp 93),none⟩,
 ⟨some 95,.mov (.tmp 0),none⟩,
 ⟨some 96,.mov (.tmp 12),none⟩,
 ⟨some 97,.ixa 4 (.tmp 95) (.tmp 96),none⟩,
 ⟨some 98,.ld true 4 (.tmp 97),none⟩,
 ⟨some 99,.ixa 4 (.tmp 87) (.tmp 88),none⟩,
 ⟨none,.st 4 (.tmp 99) (.tmp 94),none⟩,
 ⟨some 100,.ixa 4 (.tmp 89) (.tmp 90),none⟩,
 ⟨none,.st 4 (.tmp 100) (.tmp 98),none⟩] [(0,1),(0,2),(1,2),(0,3),(1,3),(2,3),(0,4),(1,4),(2,4),(3,4),(0,5),(1,5),(2,5),(3,5),(4,5),(0,6),(1,6),(2,6),(3,6),(0,7),(1,7),(2,7),(3,7),(0,8),(1,8),(2,8),(3,8),(4,8),(5,8),(6,8),(7,8),(0,9),(1,9),(2,9),(3,9),(4,9),(5,9),(6,9),(7,9),(8,9),(0,10),(1,10),(2,10),(3,10),(4,10),(5,10),(6,10),(7,10),(0,11),(1,11),(2,11),(3,11),(4,11),(5,11),(6,11),(7,11),(2,12),(3,12),(2,13),(3,13)])
 (.seq
 (.reg [] [⟨some 101,.mov (.tmp 12),none⟩,
 ⟨some 102,.arith .add .i64 (.tmp 101) (.cst (.d (.int .i64 1))),none⟩,
 ⟨some 12,.mov (.tmp 102),none⟩])
 (.seq
 (.reg [] [⟨some 103,.mov (.tmp 13),none⟩,
 ⟨some 104,.arith .sub .i64 (.tmp 103) (.cst (.d (.int .i64 1))),none⟩,
 ⟨some 13,.mov (.tmp 104),none⟩])
 (.seq
 (.post [0,1,13] []
 (.block 4
 (.keep [0,1,4,12,13] []
 (.loop
 (.post [0,1,4,12,13] []
 (.block 5
 (.seq
 (.post [0,1,4,12,13] []
 (.block 6
 (.keep [0,1,4,12,13] []
 (.loop
 (.post [0,1,4,12,13] []
 (.seq
 (.seq
 (.regd [] [⟨some 105,.mov (.tmp 12),none⟩,
 ⟨some 106,.mov (.tmp 13),none⟩,
 ⟨some 107,.cmp .leq (.tmp 105) (.tmp 106),none⟩,
 ⟨some 108,.mov (.tmp 107),none⟩,
 ⟨some 109,.mov (.tmp 4),some (108,true)⟩,
 ⟨some 110,.mov (.tmp 0),some (108,true)⟩,
 ⟨some 111,.mov (.tmp 12),some (108,true)⟩,
 ⟨some 112,.ixa 4 (.tmp 110) (.tmp 111),some (108,true)⟩,
 ⟨some 113,.ld true 4 (.tmp 112),some (108,true)⟩,
 ⟨some 114,.mov (.tmp 0),some (108,true)⟩,
 ⟨some 115,.mov (.tmp 1),some (108,true)⟩,
 ⟨some 116,.ixa 4 (.tmp 114) (.tmp 115),some (108,true)⟩,
 ⟨some 117,.ld true 4 (.tmp 116),some (108,true)⟩,
 ⟨some 118,.callv (.tmp 109) [(.tmp 113),(.tmp 117)],some (108,true)⟩,
 ⟨some 119,.cmp .lss (.tmp 118) (.cst (.d (.int .i64 0))),some (108,true)⟩,
 ⟨some 120,.pick (.tmp 108) (.tmp 119) (.cst (.d (.bool false))),none⟩] [(0,1),(4,5),(4,6),(5,6),(4,7),(4,8),(4,9),(5,9),(6,9),(7,9),(8,9),(4,10),(5,10),(6,10),(7,10),(8,10),(9,10),(4,11),(5,11),(6,11),(7,11),(8,11),(4,12),(5,12),(6,12),(7,12),(8,12)])
 (.cond (.tmp 120)
 .skip
 (.exit 6)))
 (.block 7
 (.reg [] [⟨some 121,.mov (.tmp 12),none⟩,
 ⟨some 122,.arith .add .i64 (.tmp 121) (.cst (.d (.int .i64 1))),none⟩,
 ⟨some 12,.mov (.tmp 122),none⟩]))))))))
 (.seq
 (.post [0,1,4,12,13] []
 (.block 8
 (.keep [0,1,4,12,13] []
 (.loop
 (.post [0,1,4,12,13] []
 (.seq
 (.seq
 (.regd [] [⟨some 123,.mov (.tmp 12),none⟩,
 ⟨some 124,.mov (.tmp 13),none⟩,
 ⟨some 125,.cmp .leq (.tmp 123) (.tmp 124),none⟩,
 ⟨some 126,.mov (.tmp 125),none⟩,
 ⟨some 127,.mov (.tmp 4),some (126,true)⟩,
 ⟨some 128,.mov (.tmp 0),some (126,true)⟩,
 ⟨some 129,.mov (.tmp 13),some (126,true)⟩,
 ⟨some 130,.ixa 4 (.tmp 128) (.tmp 129),some (126,true)⟩,
 ⟨some 131,.ld true 4 (.tmp 130),some (126,true)⟩,
 ⟨some 132,.mov (.tmp 0),some (126,true)⟩,
 ⟨some 133,.mov (.tmp 1),some (126,true)⟩,
 ⟨some 134,.ixa 4 (.tmp 132) (.tmp 133),some (126,true)⟩,
 ⟨some 135,.ld true 4 (.tmp 134),some (126,true)⟩,
 ⟨some 136,.callv (.tmp 127) [(.tmp 131),(.tmp 135)],some (126,true)⟩,
 ⟨some 137,.cmp .lss (.tmp 136) (.cst (.d (.int .i64 0))),some (126,true)⟩,
 ⟨some 138,.not (.tmp 137),some (126,true)⟩,
 ⟨some 139,.pick (.tmp 126) (.tmp 138) (.cst (.d (.bool false))),none⟩] [(0,1),(4,5),(4,6),(5,6),(4,7),(4,8),(4,9),(5,9),(6,9),(7,9),(8,9),(4,10),(5,10),(6,10),(7,10),(8,10),(9,10),(4,11),(5,11),(6,11),(7,11),(8,11),(4,12),(5,12),(6,12),(7,12),(8,12)])
 (.cond (.tmp 139)
 .skip
 (.exit 8)))
 (.block 9
 (.reg [] [⟨some 140,.mov (.tmp 13),none⟩,
 ⟨some 141,.arith .sub .i64 (.tmp 140) (.cst (.d (.int .i64 1))),none⟩,
 ⟨some 13,.mov (.tmp 141),none⟩]))))))))
 (.seq
 (.seq
 (.reg [] [⟨some 142,.mov (.tmp 12),none⟩,
 ⟨some 143,.mov (.tmp 13),none⟩,
 ⟨some 144,.cmp .gtr (.tmp 142) (.tmp 143),none⟩])
 (.cond (.tmp 144)
 (.exit 4)
 .skip))
 (.seq
 (.regd [] [⟨some 145,.mov (.tmp 0),none⟩,
 ⟨some 146,.mov (.tmp 12),none⟩,
 ⟨some 147,.mov (.tmp 0),none⟩,
 ⟨some 148,.mov (.tmp 13),none⟩,
 ⟨some 149,.mov (.tmp 0),none⟩,
 ⟨some 150,.mov (.tmp 13),none⟩,
 ⟨some 151,.ixa 4 (.tmp 149) (.tmp 150),none⟩,
 ⟨some 152,.ld true 4 (.tmp 151),none⟩,
 ⟨some 153,.mov (.tmp 0),none⟩,
 ⟨some 154,.mov (.tmp 12),none⟩,
 ⟨some 155,.ixa 4 (.tmp 153) (.tmp 154),none⟩,
 ⟨some 156,.ld true 4 (.tmp 155),none⟩,
 ⟨some 157,.ixa 4 (.tmp 145) (.tmp 146),none⟩,
 ⟨none,.st 4 (.tmp 157) (.tmp 152),none⟩,
 ⟨some 158,.ixa 4 (.tmp 147) (.tmp 148),none⟩,
 ⟨none,.st 4 (.tmp 158) (.tmp 156),none⟩] [(0,1),(0,2),(1,2),(0,3),(1,3),(2,3),(0,4),(1,4),(2,4),(3,4),(0,5),(1,5),(2,5),(3,5),(4,5),(0,6),(1,6),(2,6),(3,6),(0,7),(1,7),(2,7),(3,7),(0,8),(1,8),(2,8),(3,8),(4,8),(5,8),(6,8),(7,8),(0,9),(1,9),(2,9),(3,9),(4,9),(5,9),(6,9),(7,9),(8,9),(0,10),(1,10),(2,10),(3,10),(4,10),(5,10),(6,10),(7,10),(0,11),(1,11),(2,11),(3,11),(4,11),(5,11),(6,11),(7,11),(2,12),(3,12),(2,13),(3,13)])
 (.seq
 (.reg [] [⟨some 159,.mov (.tmp 12),none⟩,
 ⟨some 160,.arith .add .i64 (.tmp 159) (.cst (.d (.int .i64 1))),none⟩,
 ⟨some 12,.mov (.tmp 160),none⟩])
 (.reg [] [⟨some 161,.mov (.tmp 13),none⟩,
 ⟨some 162,.arith .sub .i64 (.tmp 161) (.cst (.d (.int .i64 1))),none⟩,
 ⟨some 13,.mov (.tmp 162),none⟩]))))))))))))
 (.seq
 (.regd [] [⟨some 163,.mov (.tmp 0),none⟩,
 ⟨some 164,.mov (.tmp 13),none⟩,
 ⟨some 165,.mov (.tmp 0),none⟩,
 ⟨some 166,.mov (.tmp 1),none⟩,
 ⟨some 167,.mov (.tmp 0),none⟩,
 ⟨some 168,.mov (.tmp 1),none⟩,
 ⟨some 169,.ixa 4 (.tmp 167) (.tmp 168),none⟩,
 ⟨some 170,.ld true 4 (.tmp 169),none⟩,
 ⟨some 171,.mov (.tmp 0),none⟩,
 ⟨some 172,.mov (.tmp 13),none⟩,
 ⟨some 173,.ixa 4 (.tmp 171) (.tmp 172),none⟩,
 ⟨some 174,.ld true 4 (.tmp 173),none⟩,
 ⟨some 175,.ixa 4 (.tmp 163) (.tmp 164),none⟩,
 ⟨none,.st 4 (.tmp 175) (.tmp 170),none⟩,
 ⟨some 176,.ixa 4 (.tmp 165) (.tmp 166),none⟩,
 ⟨none,.st 4 (.tmp 176) (.tmp 174),none⟩] [(0,1),(0,2),(1,2),(0,3),(1,3),(2,3),(0,4),(1,4),(2,4),(3,4),(0,5),(1,5),(2,5),(3,5),(4,5),(0,6),(1,6),(2,6),(3,6),(0,7),(1,7),(2,7),(3,7),(0,8),(1,8),(2,8),(3,8),(4,8),(5,8),(6,8),(7,8),(0,9),(1,9),(2,9),(3,9),(4,9),(5,9),(6,9),(7,9),(8,9),(0,10),(1,10),(2,10),(3,10),(4,10),(5,10),(6,10),(7,10),(0,11),(1,11),(2,11),(3,11),(4,11),(5,11),(6,11),(7,11),(2,12),(3,12),(2,13),(3,13)])
 (.seq
 (.reg [] [⟨some 177,.mov (.tmp 13),none⟩,
 ⟨some 10,.mov (.tmp 177),none⟩,
 ⟨some 11,.mov (.cst (.d (.bool false))),none⟩])
 .ret))))))))))))⟩
def tx209:AFun:={ jr209 with heap:=40 }
def tx212:AFun:=⟨54,41,[.tmp 4],
 (.seq
 (.reg [] [⟨some 4,.mov (.cst (.d (.str []))),none⟩])
 (.seq
 (.seq
 (.reg [] [⟨some 10,.mov (.tmp 1),none⟩,
 ⟨some 11,.cmp .eql (.tmp 10) (.cst (.d (.int .i64 10))),none⟩])
 (.cond (.tmp 11)
 (.seq
 (.seq
 (.reg [] [⟨some 12,.mov (.tmp 0),none⟩,
 ⟨some 13,.cmp .leq (.cst (.d (.int .i64 0))) (.tmp 12),none⟩,
 ⟨some 14,.mov (.tmp 13),none⟩,
 ⟨some 15,.mov (.tmp 0),some (14,true)⟩,
 ⟨some 16,.cmp .lss (.tmp 15) (.cst (.d (.int .i64 100))),some (14,true)⟩,
 ⟨some 17,.pick (.tmp 14) (.tmp 16) (.cst (.d (.bool false))),none⟩])
 (.cond (.tmp 17)
 (.seq
 (.reg [] [⟨some 18,.mov (.tmp 0),none⟩,
 ⟨some 19,.call 223 [(.tmp 18)],none⟩,
 ⟨some 4,.mov (.tmp 19),none⟩])
 .ret)
 .skip))
 (.seq
 (.reg [0] [⟨some 5,.alloc 0 [(.d (.int .u8 0)),(.d (.int .u8 0)),(.d (.int .u8 0)),(.d (.int .u8 0)),(.d (.int .u8 0)),(.d (.int .u8 0)),(.d (.int .u8 0)),(.d (.int .u8 0)),(.d (.int .u8 0)),(.d (.int .u8 0)),(.d (.int .u8 0)),(.d (.int .u8 0)),(.d (.int .u8 0)),(.d (.int .u8 0)),(.d (.int .u8 0)),(.d (.int .u8 0)),(.d (.int .u8 0)),(.d (.int .u8 0)),(.d (.int .u8 0)),(.d (.int .u8 0)),(.d (.int .u8 0)),(.d (.int .u8 0)),(.d (.int .u8 0)),(.d (.int .u8 0))],none⟩])
 (.seq
 (.reg [] [⟨some 20,.mov (.tmp 0),none⟩,
 ⟨some 21,.conv .u64 (.tmp 20),none⟩,
 ⟨some 6,.mov (.tmp 21),none⟩])
 (.seq
 (.seq
 (.reg [] [⟨some 22,.mov (.tmp 0),none⟩,
 ⟨some 23,.cmp .lss (.tmp 22) (.cst (.d (.int .i64 0))),none⟩])
 (.cond (.tmp 23)
 (.reg [] [⟨some 24,.mov (.tmp 6),none⟩,
 ⟨some 25,.neg .u64 (.tmp 24),none⟩,
 ⟨some 6,.mov (.tmp 25),none⟩])
 .skip))
 (.seq
 (.reg [] [⟨some 26,.mov (.tmp 6),none⟩,
 ⟨some 27,.call 224 [(.tmp 26)],none⟩,
 ⟨some 7,.mov (.tmp 27),none⟩])
 (.seq
 (.reg [] [⟨some 28,.mov (.tmp 7),none⟩,
 ⟨some 29,.arith .add .i64 (.cst (.d (.int .i64 1))) (.tmp 28),none⟩,
 ⟨some 30,.sla 24 (.tmp 5) (some (.cst (.d (.int .i64 1)))) (some (.tmp 29)),none⟩,
 ⟨some 31,.mov (.tmp 6),none⟩,
 ⟨some 32,.call 225 [(.tmp 30),(.tmp 31)],none⟩])
 (.seq
 (.seq
 (.reg [] [⟨some 33,.mov (.tmp 0),none⟩,
 ⟨some 34,.cmp .lss (.tmp 33) (.cst (.d (.int .i64 0))),none⟩])
 (.cond (.tmp 34)
 (.seq
 (.reg [] [⟨some 35,.ixp 24 1 (.tmp 5) (.cst (.d (.int .i64 0))),none⟩,
 ⟨none,.st 1 (.tmp 35) (.cst (.d (.int .u8 45))),none⟩])
 (.seq
 (.reg [] [⟨some 36,.mov (.tmp 7),none⟩,
 ⟨some 37,.arith .add .i64 (.cst (.d (.int .i64 1))) (.tmp 36),none⟩,
 ⟨some 38,.sla 24 (.tmp 5) none (some (.tmp 37)),none⟩,
 ⟨some 39,.b2s (.tmp 38),none⟩,
 ⟨some 4,.mov (.tmp 39),none⟩])
 .ret))
 .skip))
 (.seq
 (.reg [] [⟨some 40,.mov (.tmp 7),none⟩,
 ⟨some 41,.arith .add .i64 (.cst (.d (.int .i64 1))) (.tmp 40),none⟩,
 ⟨some 42,.sla 24 (.tmp 5) (some (.cst (.d (.int .i64 1)))) (some (.tmp 41)),none⟩,
 ⟨some 43,.b2s (.tmp 42),none⟩,
 ⟨some 4,.mov (.tmp 43),none⟩])
 .ret))))))))
 .skip))
 (.seq
 (.reg [] [⟨some 45,.mov (.tmp 0),none⟩,
 ⟨some 46,.conv .u64 (.tmp 45),none⟩,
 ⟨some 47,.mov (.tmp 1),none⟩,
 ⟨some 48,.mov (.tmp 0),none⟩,
 ⟨some 49,.cmp .lss (.tmp 48) (.cst (.d (.int .i64 0))),none⟩,
 ⟨some 50,.call 226 [(.cst (.nils 1)),(.tmp 46),(.tmp 47),(.tmp 49),(.cst (.d (.bool false)))],none⟩,
 ⟨some 44,.mov (.tmp 50),none⟩,
 ⟨some 51,.ext 0 (.tmp 44),none⟩,
 ⟨some 52,.ext 1 (.tmp 44),none⟩,
 ⟨some 8,.mov (.tmp 51),none⟩,
 ⟨some 9,.mov (.tmp 52),none⟩])
 (.seq
 (.reg [] [⟨some 53,.mov (.tmp 9),none⟩,
 ⟨some 4,.mov (.tmp 53),none⟩])
 .ret))))⟩
def tx213:AFun:=⟨76,40,[],
 (.seq
 (.reg [] [⟨some 10,.mov (.tmp 1),none⟩,
 ⟨some 8,.mov (.tmp 10),none⟩])
 (.post [] []
 (.block 0
 (.keep [0,2,3,8] []
 (.loop
 (.post [0,2,3,8] []
 (.block 1
 (.seq
 (.reg [] [⟨some 11,.mov (.tmp 8),none⟩,
 ⟨some 12,.arith .mul .i64 (.cst (.d (.int .i64 2))) (.tmp 11),none⟩,
 ⟨some 13,.arith .add .i64 (.tmp 12) (.cst (.d (.int .i64 1))),none⟩,
 ⟨some 9,.mov (.tmp 13),none⟩])
 (.seq
 (.seq
 (.reg [] [⟨some 14,.mov (.tmp 9),none⟩,
 ⟨some 15,.mov (.tmp 2),none⟩,
 ⟨some 16,.cmp .geq (.tmp 14) (.tmp 15),none⟩])
 (.cond (.tmp 16)
 (.exit 0)
 .skip))
 (.seq
 (.seq
 (.regd [] [⟨some 17,.mov (.tmp 9),none⟩,
 ⟨some 18,.arith .add .i64 (.tmp 17) (.cst (.d (.int .i64 1))),none⟩,
 ⟨some 19,.mov (.tmp 2),none⟩,
 ⟨some 20,.cmp .lss (.tmp 18) (.tmp 19),none⟩,
 ⟨some 21,.mov (.tmp 20),none⟩,
 ⟨some 22,.mov (.tmp 0),some (21,true)⟩,
 ⟨some 23,.mov (.tmp 3),some (21,true)⟩,
 ⟨some 24,.mov (.tmp 9),some (21,true)⟩,
 ⟨some 25,.arith .add .i64 (.tmp 23) (.tmp 24),some (21,true)⟩,
 ⟨some 26,.ixa 1 (.tmp 22) (.tmp 25),some (21,true)⟩,
 ⟨some 27,.ld false 1 (.tmp 26),some (21,true)⟩,
 ⟨some 28,.mov (.tmp 0),some (21,true)⟩,
 ⟨some 29,.mov (.tmp 3),some (21,true)⟩,
 ⟨some 30,.mov (.tmp 9),some (21,true)⟩,
 ⟨some 31,.arith .add .i64 (.tmp 29) (.tmp 30),some (21,true)⟩,
 ⟨some 32,.arith .add .i64 (.tmp 31) (.cst (.d (.int .i64 1))),some (21,true)⟩,
 ⟨some 33,.ixa 1 (.tmp 28) (.tmp 32),some (21,true)⟩,
 ⟨some 34,.ld false 1 (.tmp 33),some (21,true)⟩,
 ⟨some 35,.call 194 [(.tmp 27),(.tmp 34)],some (21,true)⟩,
 ⟨some 36,.pick (.tmp 21) (.tmp 35) (.cst (.d (.bool false))),none⟩] [(0,2),(1,2),(5,6),(5,7),(6,7),(5,8),(5,11),(6,11),(7,11),(8,11),(9,11),(10,11),(5,12),(6,12),(7,12),(8,12),(9,12),(10,12),(11,12),(5,13),(6,13),(7,13),(8,13),(9,13),(10,13),(11,13),(12,13),(5,14),(6,14),(7,14),(8,14),(9,14),(10,14),(11,14),(5,15),(6,15),(7,15),(8,15),(9,15),(10,15),(11,15),(5,16),(6,16),(7,16),(8,16),(9,16),(10,16),(5,17),(6,17),(7,17),(8,17),(9,17),(10,17)])
 (.cond (.tmp 36)
 (.reg [] [⟨some 37,.mov (.tmp 9),none⟩,
 ⟨some 38,.arith .add .i64 (.tmp 37) (.cst (.d (.int .i64 1))),none⟩,
 ⟨some 9,.mov (.tmp 38),none⟩])
 .skip))
 (.seq
 (.seq
 (.regd [] [⟨some 39,.mov (.tmp 0),none⟩,
 ⟨some 40,.mov (.tmp 3),none⟩,
 ⟨some 41,.mov (.tmp 8),none⟩,
 ⟨some 42,.arith .add .i64 (.tmp 40) (.tmp 41),none⟩,
 ⟨some 43,.ixa 1 (.tmp 39) (.tmp 42),none⟩,
 ⟨some 44,.ld false 1 (.tmp 43),none⟩,
 ⟨some 45,.mov (.tmp 0),none⟩,
 ⟨some 46,.mov (.tmp 3),none⟩,
 ⟨some 47,.mov (.tmp 9),none⟩,
 ⟨some 48,.arith .add .i64 (.tmp 46) (.tmp 47),none⟩,
 ⟨some 49,.ixa 1 (.tmp 45) (.tmp 48),none⟩,
 ⟨some 50,.ld false 1 (.tmp 49),none⟩,
 ⟨some 51,.call 194 [(.tmp 44),(.tmp 50)],none⟩,
 ⟨some 52,.not (.tmp 51),none⟩] [(0,1),(0,2),(1,2),(0,3),(0,6),(1,6),(2,6),(3,6),(4,6),(5,6),(0,7),(1,7),(2,7),(3,7),(4,7),(5,7),(6,7),(0,8),(1,8),(2,8),(3,8),(4,8),(5,8),(6,8),(7,8),(0,9),(1,9),(2,9),(3,9),(4,9),(5,9),(6,9),(0,10),(1,10),(2,10),(3,10),(4,10),(5,10),(0,11),(1,11),(2,11),(3,11),(4,11),(5,11)])
 (.cond (.tmp 52)
 .ret
 .skip))
 (.seq
 (.regd [] [⟨some 53,.mov (.tmp 0),none⟩,
 ⟨some 54,.mov (.tmp 3),none⟩,
 ⟨some 55,.mov (.tmp 8),none⟩,
 ⟨some 56,.arith .add .i64 (.tmp 54) (.tmp 55),none⟩,
 ⟨some 57,.mov (.tmp 0),none⟩,
 ⟨some 58,.mov (.tmp 3),none⟩,
 ⟨some 59,.mov (.tmp 9),none⟩,
 ⟨some 60,.arith .add .i64 (.tmp 58) (.tmp 59),none⟩,
 ⟨some 61,.mov (.tmp 0),none⟩,
 ⟨some 62,.mov (.tmp 3),none⟩,
 ⟨some 63,.mov (.tmp 9),none⟩,
 ⟨some 64,.arith .add .i64 (.tmp 62) (.tmp 63),none⟩,
 ⟨some 65,.ixa 1 (.tmp 61) (.tmp 64),none⟩,
 ⟨some 66,.ld false 1 (.tmp 65),none⟩,
 ⟨some 67,.mov (.tmp 0),none⟩,
 ⟨some 68,.mov (.tmp 3),none⟩,
 ⟨some 69,.mov (.tmp 8),none⟩,
 ⟨some 70,.arith .add .i64 (.tmp 68) (.tmp 69),none⟩,
 ⟨some 71,.ixa 1 (.tmp 67) (.tmp 70),none⟩,
 ⟨some 72,.ld false 1 (.tmp 71),none⟩,
 ⟨some 73,.ixa 1 (.tmp 53) (.tmp 56),none⟩,
 ⟨none,.st 1 (.tmp 73) (.tmp 66),none⟩,
 ⟨some 74,.ixa 1 (.tmp 57) (.tmp 60),none⟩,
 ⟨none,.st 1 (.tmp 74) (.tmp 72),none⟩] [(0,1),(0,2),(1,2),(0,3),(0,4),(1,4),(2,4),(3,4),(0,5),(1,5),(2,5),(3,5),(4,5),(0,6),(1,6),(2,6),(3,6),(4,6),(5,6),(0,7),(1,7),(2,7),(3,7),(4,7),(0,8),(1,8),(2,8),(3,8),(4,8),(5,8),(6,8),(7,8),(0,9),(1,9),(2,9),(3,9),(4,9),(5,9),(6,9),(7,9),(8,9),(0,10),(1,10),(2,10),(3,10),(4,10),(5,10),(6,10),(7,10),(8,10),(9,10),(0,11),(1,11),(2,11),(3,11),(4,11),(5,11),(6,11),(7,11),(8,11),(0,12),(1,12),(2,12),(3,12),(4,12),(5,12),(6,12),(7,12),(0,13),(1,13),(2,13),(3,13),(4,13),(5,13),(6,13),(7,13),(0,14),(1,14),(2,14),(3,14),(4,14),(5,14),(6,14),(7,14),(8,14),(9,14),(10,14),(11,14),(12,14),(13,14),(0,15),(1,15),(2,15),(3,15),(4,15),(5,15),(6,15),(7,15),(8,15),(9,15),(10,15),(11,15),(12,15),(13,15),(14,15),(0,16),(1,16),(2,16),(3,16),(4,16),(5,16),(6,16),(7,16),(8,16),(9,16),(10,16),(11,16),(12,16),(13,16),(14,16),(15,16),(0,17),(1,17),(2,17),(3,17),(4,17),(5,17),(6,17),(7,17),(8,17),(9,17),(10,17),(11,17),(12,17),(13,17),(14,17),(0,18),(1,18),(2,18),(3,18),(4,18),(5,18),(6,18),(7,18),(8,18),(9,18),(10,18),(11,18),(12,18),(13,18),(0,19),(1,19),(2,19),(3,19),(4,19),(5,19),(6,19),(7,19),(8,19),(9,19),(10,19),(11,19),(12,19),(13,19),(4,20),(5,20),(6,20),(7,20),(4,21),(5,21),(6,21),(7,21)])
 (.reg [] [⟨some 75,.mov (.tmp 9),none⟩,
 ⟨some 8,.mov (.tmp 75),none⟩])))))))))))))⟩
def tx214:AFun:=⟨7,40,[.tmp 2],
 (.seq
 (.reg [] [⟨some 2,.mov (.cst (.d (.int .u64 0))),none⟩])
 (.seq
 (.reg [] [⟨some 3,.mov (.tmp 0),none⟩,
 ⟨some 4,.conv .u64 (.tmp 3),none⟩,
 ⟨some 5,.call 168 [(.tmp 4)],none⟩,
 ⟨some 6,.shf .shl .u64 (.cst (.d (.int .u64 1))) (.tmp 5),none⟩,
 ⟨some 2,.mov (.tmp 6),none⟩])
 .ret))⟩
def tx215:AFun:=⟨33,40,[.tmp 2],
 (.seq
 (.reg [] [⟨some 2,.mov (.cst (.d (.int .u64 0))),none⟩])
 (.seq
 (.regd [] [⟨some 3,.mov (.tmp 0),none⟩,
 ⟨some 4,.nck (.tmp 3),none⟩,
 ⟨some 5,.ld false 1 (.tmp 4),none⟩,
 ⟨some 6,.mov (.tmp 0),none⟩,
 ⟨some 7,.nck (.tmp 6),none⟩,
 ⟨some 8,.ld false 1 (.tmp 7),none⟩,
 ⟨some 9,.shf .shl .u64 (.tmp 8) (.cst (.d (.int .u64 13))),none⟩,
 ⟨some 10,.bit .xor .u64 (.tmp 5) (.tmp 9),none⟩,
 ⟨some 11,.nck (.tmp 3),none⟩,
 ⟨none,.st 1 (.tmp 11) (.tmp 10),none⟩] [(0,3),(1,3),(2,3),(0,4),(1,4),(2,4),(0,5),(1,5),(2,5),(0,6),(1,6),(2,6)])
 (.seq
 (.regd [] [⟨some 12,.mov (.tmp 0),none⟩,
 ⟨some 13,.nck (.tmp 12),none⟩,
 ⟨some 14,.ld false 1 (.tmp 13),none⟩,
 ⟨some 15,.mov (.tmp 0),none⟩,
 ⟨some 16,.nck (.tmp 15),none⟩,
 ⟨some 17,.ld false 1 (.tmp 16),none⟩,
 ⟨some 18,.shf .shr .u64 (.tmp 17) (.cst (.d (.int .u64 7))),none⟩,
 ⟨some 19,.bit .xor .u64 (.tmp 14) (.tmp 18),none⟩,
 ⟨some 20,.nck (.tmp 12),none⟩,
 ⟨none,.st 1 (.tmp 20) (.tmp 19),none⟩] [(0,3),(1,3),(2,3),(0,4),(1,4),(2,4),(0,5),(1,5),(2,5),(0,6),(1,6),(2,6)])
 (.seq
 (.regd [] [⟨some 21,.mov (.tmp 0),none⟩,
 ⟨some 22,.nck (.tmp 21),none⟩,
 ⟨some 23,.ld false 1 (.tmp 22),none⟩,
 ⟨some 24,.mov (.tmp 0),none⟩,
 ⟨some 25,.nck (.tmp 24),none⟩,
 ⟨some 26,.ld false 1 (.tmp 25),none⟩,
 ⟨some 27,.shf .shl .u64 (.tmp 26) (.cst (.d (.int .u64 17))),none⟩,
 ⟨some 28,.bit .xor .u64 (.tmp 23) (.tmp 27),none⟩,
 ⟨some 29,.nck (.tmp 21),none⟩,
 ⟨none,.st 1 (.tmp 29) (.tmp 28),none⟩] [(0,3),(1,3),(2,3),(0,4),(1,4),(2,4),(0,5),(1,5),(2,5),(0,6),(1,6),(2,6)])
 (.seq
 (.reg [] [⟨some 30,.mov (.tmp 0),none⟩,
 ⟨some 31,.nck (.tmp 30),none⟩,
 ⟨some 32,.ld false 1 (.tmp 31),none⟩,
 ⟨some 2,.mov (.tmp 32),none⟩])
 .ret)))))⟩
def tx216:AFun:=⟨15,40,[.tmp 6],
 (.seq
 (.reg [] [⟨some 6,.mov (.cst (.d (.int .i64 0))),none⟩])
 (.seq
 (.reg [] [⟨some 7,.mov (.tmp 0),none⟩,
 ⟨some 8,.mov (.tmp 1),none⟩,
 ⟨some 9,.arith .sub .i64 (.tmp 8) (.cst (.d (.int .i64 1))),none⟩,
 ⟨some 10,.mov (.tmp 1),none⟩,
 ⟨some 11,.mov (.tmp 1),none⟩,
 ⟨some 12,.arith .add .i64 (.tmp 11) (.cst (.d (.int .i64 1))),none⟩,
 ⟨some 13,.mov (.tmp 2),none⟩,
 ⟨some 14,.calli 217 [(.tmp 7),(.tmp 9),(.tmp 10),(.tmp 12),(.tmp 13)],none⟩,
 ⟨some 6,.mov (.tmp 14),none⟩])
 .ret))⟩
def tx217:AFun:=⟨36,40,[.tmp 10],
 (.seq
 (.reg [] [⟨some 10,.mov (.cst (.d (.int .i64 0))),none⟩])
 (.seq
 (.reg [] [⟨some 12,.mov (.tmp 0),none⟩,
 ⟨some 13,.mov (.tmp 1),none⟩,
 ⟨some 14,.mov (.tmp 2),none⟩,
 ⟨some 15,.mov (.tmp 4),none⟩,
 ⟨some 16,.calli 227 [(.tmp 12),(.tmp 13),(.tmp 14),(.tmp 15)],none⟩,
 ⟨some 11,.mov (.tmp 16),none⟩,
 ⟨some 17,.ext 0 (.tmp 11),none⟩,
 ⟨some 18,.ext 1 (.tmp 11),none⟩,
 ⟨some 1,.mov (.tmp 17),none⟩,
 ⟨some 2,.mov (.tmp 18),none⟩])
 (.seq
 (.reg [] [⟨some 20,.mov (.tmp 0),none⟩,
 ⟨some 21,.mov (.tmp 2),none⟩,
 ⟨some 22,.mov (.tmp 3),none⟩,
 ⟨some 23,.mov (.tmp 4),none⟩,
 ⟨some 24,.calli 227 [(.tmp 20),(.tmp 21),(.tmp 22),(.tmp 23)],none⟩,
 ⟨some 19,.mov (.tmp 24),none⟩,
 ⟨some 25,.ext 0 (.tmp 19),none⟩,
 ⟨some 26,.ext 1 (.tmp 19),none⟩,
 ⟨some 2,.mov (.tmp 25),none⟩,
 ⟨some 3,.mov (.tmp 26),none⟩])
 (.seq
 (.reg [] [⟨some 28,.mov (.tmp 0),none⟩,
 ⟨some 29,.mov (.tmp 1),none⟩,
 ⟨some 30,.mov (.tmp 2),none⟩,
 ⟨some 31,.mov (.tmp 4),none⟩,
 ⟨some 32,.calli 227 [(.tmp 28),(.tmp 29),(.tmp 30),(.tmp 31)],none⟩,
 ⟨some 27,.mov (.tmp 32),none⟩,
 ⟨some 33,.ext 0 (.tmp 27),none⟩,
 ⟨some 34,.ext 1 (.tmp 27),none⟩,
 ⟨some 1,.mov (.tmp 33),none⟩,
 ⟨some 2,.mov (.tmp 34),none⟩])
 (.seq
 (.reg [] [⟨some 35,.mov (.tmp 2),none⟩,
 ⟨some 10,.mov (.tmp 35),none⟩])
 .ret)))))⟩
def tx218:AFun:=⟨82,40,[],
 (.seq
 (.reg [] [⟨some 12,.mov (.tmp 1),none⟩,
 ⟨some 10,.mov (.tmp 12),none⟩])
 (.post [] []
 (.block 0
 (.keep [0,2,3,4,10] []
 (.loop
 (.post [0,2,3,4,10] []
 (.block 1
 (.seq
 (.reg [] [⟨some 13,.mov (.tmp 10),none⟩,
 ⟨some 14,.arith .mul .i64 (.cst (.d (.int .i64 2))) (.tmp 13),none⟩,
 ⟨some 15,.arith .add .i64 (.tmp 14) (.cst (.d (.int .i64 1))),none⟩,
 ⟨some 11,.mov (.tmp 15),none⟩])
 (.seq
 (.seq
 (.reg [] [⟨some 16,.mov (.tmp 11),none⟩,
 ⟨some 17,.mov (.tmp 2),none⟩,
 ⟨some 18,.cmp .geq (.tmp 16) (.tmp 17),none⟩])
 (.cond (.tmp 18)
 (.exit 0)
 .skip))
 (.seq
 (.seq
 (.regd [] [⟨some 19,.mov (.tmp 11),none⟩,
 ⟨some 20,.arith .add .i64 (.tmp 19) (.cst (.d (.int .i64 1))),none⟩,
 ⟨some 21,.mov (.tmp 2),none⟩,
 ⟨some 22,.cmp .lss (.tmp 20) (.tmp 21),none⟩,
 ⟨some 23,.mov (.tmp 22),none⟩,
 ⟨some 24,.mov (.tmp 4),some (23,true)⟩,
 ⟨some 25,.mov (.tmp 0),some (23,true)⟩,
 ⟨some 26,.mov (.tmp 3),some (23,true)⟩,
 ⟨some 27,.mov (.tmp 11),some (23,true)⟩,
 ⟨some 28,.arith .add .i64 (.tmp 26) (.tmp 27),some (23,true)⟩,
 ⟨some 29,.ixa 4 (.tmp 25) (.tmp 28),some (23,true)⟩,
 ⟨some 30,.ld true 4 (.tmp 29),some (23,true)⟩,
 ⟨some 31,.mov (.tmp 0),some (23,true)⟩,
 ⟨some 32,.mov (.tmp 3),some (23,true)⟩,
 ⟨some 33,.mov (.tmp 11),some (23,true)⟩,
 ⟨some 34,.arith .add .i64 (.tmp 32) (.tmp 33),some (23,true)⟩,
 ⟨some 35,.arith .add .i64 (.tmp 34) (.cst (.d (.int .i64 1))),some (23,true)⟩,
 ⟨some 36,.ixa 4 (.tmp 31) (.tmp 35),some (23,true)⟩,
 ⟨some 37,.ld true 4 (.tmp 36),some (23,true)⟩,
 ⟨some 38,.callv (.tmp 24) [(.tmp 30),(.tmp 37)],some (23,true)⟩,
 ⟨some 39,.cmp .lss (.tmp 38) (.cst (.d (.int .i64 0))),some (23,true)⟩,
 ⟨some 40,.pick (.tmp 23) (.tmp 39) (.cst (.d (.bool false))),none⟩] [(0,2),(1,2),(5,6),(5,7),(6,7),(5,8),(6,8),(7,8),(5,9),(6,9),(5,10),(5,11),(5,12),(6,12),(7,12),(8,12),(9,12),(10,12),(11,12),(5,13),(6,13),(7,13),(8,13),(9,13),(10,13),(11,13),(12,13),(5,14),(6,14),(7,14),(8,14),(9,14),(10,14),(11,14),(12,14),(13,14),(5,15),(6,15),(7,15),(8,15),(9,15),(10,15),(11,15),(12,15),(5,16),(6,16),(7,16),(8,16),(9,16),(10,16),(11,16),(12,16),(5,17),(6,17),(7,17),(8,17),(9,17),(10,17),(11,17),(5,18),(6,18),(7,18),(8,18),(9,18),(10,18),(11,18)])
 (.cond (.tmp 40)
 (.reg [] [⟨some 41,.mov (.tmp 11),none⟩,
 ⟨some 42,.arith .add .i64 (.tmp 41) (.cst (.d (.int .i64 1))),none⟩,
 ⟨some 11,.mov (.tmp 42),none⟩])
 .skip))
 (.seq
 (.seq
 (.regd [] [⟨some 43,.mov (.tmp 4),none⟩,
 ⟨some 44,.mov (.tmp 0),none⟩,
 ⟨some 45,.mov (.tmp 3),none⟩,
 ⟨some 46,.mov (.tmp 10),none⟩,
 ⟨some 47,.arith .add .i64 (.tmp 45) (.tmp 46),none⟩,
 ⟨some 48,.ixa 4 (.tmp 44) (.tmp 47),none⟩,
 ⟨some 49,.ld true 4 (.tmp 48),none⟩,
 ⟨some 50,.mov (.tmp 0),none⟩,
 ⟨some 51,.mov (.tmp 3),none⟩,
 ⟨some 52,.mov (.tmp 11),none⟩,
 ⟨some 53,.arith .add .i64 (.tmp 51) (.tmp 52),none⟩,
 ⟨some 54,.ixa 4 (.tmp 50) (.tmp 53),none⟩,
 ⟨some 55,.ld true 4 (.tmp 54),none⟩,
 ⟨some 56,.callv (.tmp 43) [(.tmp 49),(.tmp 55)],none⟩,
 ⟨some 57,.cmp .lss (.tmp 56) (.cst (.d (.int .i64 0))),none⟩,
 ⟨some 58,.not (.tmp 57),none⟩] [(0,1),(0,2),(1,2),(0,3),(1,3),(2,3),(0,4),(1,4),(0,5),(0,6),(0,7),(1,7),(2,7),(3,7),(4,7),(5,7),(6,7),(0,8),(1,8),(2,8),(3,8),(4,8),(5,8),(6,8),(7,8),(0,9),(1,9),(2,9),(3,9),(4,9),(5,9),(6,9),(7,9),(8,9),(0,10),(1,10),(2,10),(3,10),(4,10),(5,10),(6,10),(7,10),(0,11),(1,11),(2,11),(3,11),(4,11),(5,11),(6,11),(0,12),(1,12),(2,12),(3,12),(4,12),(5,12),(6,12)])
 (.cond (.tmp 58)
 .ret
 .skip))
 (.seq
 (.regd [] [⟨some 59,.mov (.tmp 0),none⟩,
 ⟨some 60,.mov (.tmp 3),none⟩,
 ⟨some 61,.mov (.tmp 10),none⟩,
 ⟨some 62,.arith .add .i64 (.tmp 60) (.tmp 61),none⟩,
 ⟨some 63,.mov (.tmp 0),none⟩,
 ⟨some 64,.mov (.tmp 3),none⟩,
 ⟨some 65,.mov (.tmp 11),none⟩,
 ⟨some 66,.arith .add .i64 (.tmp 64) (.tmp 65),none⟩,
 ⟨some 67,.mov (.tmp 0),none⟩,
 ⟨some 68,.mov (.tmp 3),none⟩,
 ⟨some 69,.mov (.tmp 11),none⟩,
 ⟨some 70,.arith .add .i64 (.tmp 68) (.tmp 69),none⟩,
 ⟨some 71,.ixa 4 (.tmp 67) (.tmp 70),none⟩,
 ⟨some 72,.ld true 4 (.tmp 71),none⟩,
 ⟨some 73,.mov (.tmp 0),none⟩,
 ⟨some 74,.mov (.tmp 3),none⟩,
 ⟨some 75,.mov (.tmp 10),none⟩,
 ⟨some 76,.arith .add .i64 (.tmp 74) (.tmp 75),none⟩,
 ⟨some 77,.ixa 4 (.tmp 73) (.tmp 76),none⟩,
 ⟨some 78,.ld true 4 (.tmp 77),none⟩,
 ⟨some 79,.ixa 4 (.tmp 59) (.tmp 62),none⟩,
 ⟨none,.st 4 (.tmp 79) (.tmp 72),none⟩,
 ⟨some 80,.ixa 4 (.tmp 63) (.tmp 66),none⟩,
 ⟨none,.st 4 (.tmp 80) (.tmp 78),none⟩] [(0,1),(0,2),(1,2),(0,3),(0,4),(1,4),(2,4),(3,4),(0,5),(1,5),(2,5),(3,5),(4,5),(0,6),(1,6),(2,6),(3,6),(4,6),(5,6),(0,7),(1,7),(2,7),(3,7),(4,7),(0,8),(1,8),(2,8),(3,8),(4,8),(5,8),(6,8),(7,8),(0,9),(1,9),(2,9),(3,9),(4,9),(5,9),(6,9),(7,9),(8,9),(0,10),(1,10),(2,10),(3,10),(4,10),(5,10),(6,10),(7,10),(8,10),(9,10),(0,11),(1,11),(2,11),(3,11),(4,11),(5,11),(6,11),(7,11),(8,11),(0,12),(1,12),(2,12),(3,12),(4,12),(5,12),(6,12),(7,12),(0,13),(1,13),(2,13),(3,13),(4,13),(5,13),(6,13),(7,13),(0,14),(1,14),(2,14),(3,14),(4,14),(5,14),(6,14),(7,14),(8,14),(9,14),(10,14),(11,14),(12,14),(13,14),(0,15),(1,15),(2,15),(3,15),(4,15),(5,15),(6,15),(7,15),(8,15),(9,15),(10,15),(11,15),(12,15),(13,15),(14,15),(0,16),(1,16),(2,16),(3,16),(4,16),(5,16),(6,16),(7,16),(8,16),(9,16),(10,16),(11,16),(12,16),(13,16),(14,16),(15,16),(0,17),(1,17),(2,17),(3,17),(4,17),(5,17),(6,17),(7,17),(8,17),(9,17),(10,17),(11,17),(12,17),(13,17),(14,17),(0,18),(1,18),(2,18),(3,18),(4,18),(5,18),(6,18),(7,18),(8,18),(9,18),(10,18),(11,18),(12,18),(13,18),(0,19),(1,19),(2,19),(3,19),(4,19),(5,19),(6,19),(7,19),(8,19),(9,19),(10,19),(11,19),(12,19),(13,19),(4,20),(5,20),(6,20),(7,20),(4,21),(5,21),(6,21),(7,21)])
 (.reg [] [⟨some 81,.mov (.tmp 11),none⟩,
 ⟨some 10,.mov (.tmp 81),none⟩])))))))))))))⟩
def tx219:AFun:=⟨18,40,[.tmp 8],
 (.seq
 (.reg [] [⟨some 8,.mov (.cst (.d (.int .i64 0))),none⟩])
 (.seq
 (.reg [] [⟨some 9,.mov (.tmp 0),none⟩,
 ⟨some 10,.mov (.tmp 1),none⟩,
 ⟨some 11,.arith .sub .i64 (.tmp 10) (.cst (.d (.int .i64 1))),none⟩,
 ⟨some 12,.mov (.tmp 1),none⟩,
 ⟨some 13,.mov (.tmp 1),none⟩,
 ⟨some 14,.arith .add .i64 (.tmp 13) (.cst (.d (.int .i64 1))),none⟩,
 ⟨some 15,.mov (.tmp 2),none⟩,
 ⟨some 16,.mov (.tmp 3),none⟩,
 ⟨some 17,.calli 220 [(.tmp 9),(.tmp 11),(.tmp 12),(.tmp 14),(.tmp 15),(.tmp 16)],none⟩,
 ⟨some 8,.mov (.tmp 17),none⟩])
 .ret))⟩
def tx220:AFun:=⟨41,40,[.tmp 12],
 (.seq
 (.reg [] [⟨some 12,.mov (.cst (.d (.int .i64 0))),none⟩])
 (.seq
 (.reg [] [⟨some 14,.mov (.tmp 0),none⟩,
 ⟨some 15,.mov (.tmp 1),none⟩,
 ⟨some 16,.mov (.tmp 2),none⟩,
 ⟨some 17,.mov (.tmp 4),none⟩,
 ⟨some 18,.mov (.tmp 5),none⟩,
 ⟨some 19,.calli 228 [(.tmp 14),(.tmp 15),(.tmp 16),(.tmp 17),(.tmp 18)],none⟩,
 ⟨some 13,.mov (.tmp 19),none⟩,
 ⟨some 20,.ext 0 (.tmp 13),none⟩,
 ⟨some 21,.ext 1 (.tmp 13),none⟩,
 ⟨some 1,.mov (.tmp 20),none⟩,
 ⟨some 2,.mov (.tmp 21),none⟩])
 (.seq
 (.reg [] [⟨some 23,.mov (.tmp 0),none⟩,
 ⟨some 24,.mov (.tmp 2),none⟩,
 ⟨some 25,.mov (.tmp 3),none⟩,
 ⟨some 26,.mov (.tmp 4),none⟩,
 ⟨some 27,.mov (.tmp 5),none⟩,
 ⟨some 28,.calli 228 [(.tmp 23),(.tmp 24),(.tmp 25),(.tmp 26),(.tmp 27)],none⟩,
 ⟨some 22,.mov (.tmp 28),none⟩,
 ⟨some 29,.ext 0 (.tmp 22),none⟩,
 ⟨some 30,.ext 1 (.tmp 22),none⟩,
 ⟨some 2,.mov (.tmp 29),none⟩,
 ⟨some 3,.mov (.tmp 30),none⟩])
 (.seq
 (.reg [] [⟨some 32,.mov (.tmp 0),none⟩,
 ⟨some 33,.mov (.tmp 1),none⟩,
 ⟨some 34,.mov (.tmp 2),none⟩,
 ⟨some 35,.mov (.tmp 4),none⟩,
 ⟨some 36,.mov (.tmp 5),none⟩,
 ⟨some 37,.calli 228 [(.tmp 32),(.tmp 33),(.tmp 34),(.tmp 35),(.tmp 36)],none⟩,
 ⟨some 31,.mov (.tmp 37),none⟩,
 ⟨some 38,.ext 0 (.tmp 31),none⟩,
 ⟨some 39,.ext 1 (.tmp 31),none⟩,
 ⟨some 1,.mov (.tmp 38),none⟩,
 ⟨some 2,.mov (.tmp 39),none⟩])
 (.seq
 (.reg [] [⟨some 40,.mov (.tmp 2),none⟩,
 ⟨some 12,.mov (.tmp 40),none⟩])
 .ret)))))⟩
def tx223:AFun:=⟨15,40,[.tmp 2],
 (.seq
 (.reg [] [⟨some 2,.mov (.cst (.d (.str []))),none⟩])
 (.seq
 (.seq
 (.reg [] [⟨some 3,.mov (.tmp 0),none⟩,
 ⟨some 4,.cmp .lss (.tmp 3) (.cst (.d (.int .i64 10))),none⟩])
 (.cond (.tmp 4)
 (.seq
 (.reg [] [⟨some 5,.mov (.tmp 0),none⟩,
 ⟨some 6,.mov (.tmp 0),none⟩,
 ⟨some 7,.arith .add .i64 (.tmp 6) (.cst (.d (.int .i64 1))),none⟩,
 ⟨some 8,.slcs (.cst (.d (.str [48,49,50,51,52,53,54,55,56,57,97,98,99,100,101,102,103,104,105,106,107,108,109,110,111,112,113,114,115,116,117,118,119,120,121,122]))) (some (.tmp 5)) (some (.tmp 7)),none⟩,
 ⟨some 2,.mov (.tmp 8),none⟩])
 .ret)
 .skip))
 (.seq
 (.reg [] [⟨some 9,.mov (.tmp 0),none⟩,
 ⟨some 10,.arith .mul .i64 (.tmp 9) (.cst (.d (.int .i64 2))),none⟩,
 ⟨some 11,.mov (.tmp 0),none⟩,
 ⟨some 12,.arith .mul .i64 (.tmp 11) (.cst (.d (.int .i64 2))),none⟩,
 ⟨some 13,.arith .add .i64 (.tmp 12) (.cst (.d (.int .i64 2))),none⟩,
 ⟨some 14,.slcs (.cst (.d (.str [48,48,48,49,48,50,48,51,48,52,48,53,48,54,48,55,48,56,48,57,49,48,49,49,49,50,49,51,49,52,49,53,49,54,49,55,49,56,49,57,50,48,50,49,50,50,50,51,50,52,50,53,50,54,50,55,50,56,50,57,51,48,51,49,51,50,51,51,51,52,51,53,51,54,51,55,51,56,51,57,52,48,52,49,52,50,52,51,52,52,52,53,52,54,52,55,52,56,52,57,53,48,53,49,53,50,53,51,53,52,53,53,53,54,53,55,53,56,53,57,54,48,54,49,54,50,54,51,54,52,54,53,54,54,54,55,54,56,54,57,55,48,55,49,55,50,55,51,55,52,55,53,55,54,55,55,55,56,55,57,56,48,56,49,56,50,56,51,56,52,56,53,56,54,56,55,56,56,56,57,57,48,57,49,57,50,57,51,57,52,57,53,57,54,57,55,57,56,57,57]))) (some (.tmp 10)) (some (.tmp 13)),none⟩,
 ⟨some 2,.mov (.tmp 14),none⟩])
 .ret)))⟩
def tx224:AFun:=⟨15,40,[.tmp 2],
 (.seq
 (.reg [] [⟨some 2,.mov (.cst (.d (.int .i64 0))),none⟩])
 (.seq
 (.reg [] [⟨some 4,.mov (.tmp 0),none⟩,
 ⟨some 5,.call 198 [(.tmp 4)],none⟩,
 ⟨some 6,.call 229 [(.tmp 5)],none⟩,
 ⟨some 3,.mov (.tmp 6),none⟩])
 (.seq
 (.reg [] [⟨some 7,.mov (.tmp 3),none⟩,
 ⟨some 8,.mov (.tmp 0),none⟩,
 ⟨some 9,.mov (.tmp 3),none⟩,
 ⟨some 10,.ixp 20 1 (.cst (.gp 2 0)) (.tmp 9),none⟩,
 ⟨some 11,.ld false 1 (.tmp 10),none⟩,
 ⟨some 12,.cmp .geq (.tmp 8) (.tmp 11),none⟩,
 ⟨some 13,.call 230 [(.tmp 12)],none⟩,
 ⟨some 14,.arith .add .i64 (.tmp 7) (.tmp 13),none⟩,
 ⟨some 2,.mov (.tmp 14),none⟩])
 .ret)))⟩
def tx225:AFun:=⟨167,40,[],
 (.seq
 (.reg [] [⟨some 17,.mov (.tmp 0),none⟩,
 ⟨some 18,.len (.tmp 17),none⟩,
 ⟨some 4,.mov (.tmp 18),none⟩])
 (.seq
 (.post [0,1,4] []
 (.block 0
 (.keep [0,1,4] []
 (.loop
 (.post [0,1,4] []
 (.seq
 (.seq
 (.reg [] [⟨some 19,.mov (.tmp 4),none⟩,
 ⟨some 20,.cmp .geq (.tmp 19) (.cst (.d (.int .i64 8))),none⟩])
 (.cond (.tmp 20)
 .skip
 (.exit 0)))
 (.block 1
 (.seq
 (.reg [] [⟨some 21,.mov (.tmp 1),none⟩,
 ⟨some 22,.arith .rem .u64 (.tmp 21) (.cst (.d (.int .u64 100000000))),none⟩,
 ⟨some 23,.conv .u32 (.tmp 22),none⟩,
 ⟨some 5,.mov (.tmp 23),none⟩])
 (.seq
 (.reg [] [⟨some 24,.mov (.tmp 1),none⟩,
 ⟨some 25,.arith .quo .u64 (.tmp 24) (.cst (.d (.int .u64 100000000))),none⟩,
 ⟨some 1,.mov (.tmp 25),none⟩])
 (.seq
 (.reg [] [⟨some 26,.mov (.tmp 5),none⟩,
 ⟨some 27,.arith .quo .u32 (.tmp 26) (.cst (.d (.int .u32 10000))),none⟩,
 ⟨some 28,.mov (.tmp 5),none⟩,
 ⟨some 29,.arith .rem .u32 (.tmp 28) (.cst (.d (.int .u32 10000))),none⟩,
 ⟨some 6,.mov (.tmp 27),none⟩,
 ⟨some 7,.mov (.tmp 29),none⟩])
 (.seq
 (.reg [] [⟨some 30,.mov (.tmp 7),none⟩,
 ⟨some 31,.arith .quo .u32 (.tmp 30) (.cst (.d (.int .u32 100))),none⟩,
 ⟨some 32,.arith .mul .u32 (.tmp 31) (.cst (.d (.int .u32 2))),none⟩,
 ⟨some 33,.mov (.tmp 7),none⟩,
 ⟨some 34,.arith .rem .u32 (.tmp 33) (.cst (.d (.int .u32 100))),none⟩,
 ⟨some 35,.arith .mul .u32 (.tmp 34) (.cst (.d (.int .u32 2))),none⟩,
 ⟨some 8,.mov (.tmp 32),none⟩,
 ⟨some 9,.mov (.tmp 35),none⟩])
 (.seq
 (.reg [] [⟨some 36,.mov (.tmp 6),none⟩,
 ⟨some 37,.arith .quo .u32 (.tmp 36) (.cst (.d (.int .u32 100))),none⟩,
 ⟨some 38,.arith .mul .u32 (.tmp 37) (.cst (.d (.int .u32 2))),none⟩,
 ⟨some 39,.mov (.tmp 6),none⟩,
 ⟨some 40,.arith .rem .u32 (.tmp 39) (.cst (.d (.int .u32 100))),none⟩,
 ⟨some 41,.arith .mul .u32 (.tmp 40) (.cst (.d (.int .u32 2))),none⟩,
 ⟨some 10,.mov (.tmp 38),none⟩,
 ⟨some 11,.mov (.tmp 41),none⟩])
 (.seq
 (.regd [] [⟨some 42,.mov (.tmp 0),none⟩,
 ⟨some 43,.mov (.tmp 4),none⟩,
 ⟨some 44,.arith .sub .i64 (.tmp 43) (.cst (.d (.int .i64 1))),none⟩,
 ⟨some 45,.mov (.tmp 0),none⟩,
 ⟨some 46,.mov (.tmp 4),none⟩,
 ⟨some 47,.arith .sub .i64 (.tmp 46) (.cst (.d (.int .i64 2))),none⟩,
 ⟨some 48,.mov (.tmp 9),none⟩,
 ⟨some 49,.arith .add .u32 (.tmp 48) (.cst (.d (.int .u32 1))),none⟩,
 ⟨some 50,.ixs (.cst (.d (.str [48,48,48,49,48,50,48,51,48,52,48,53,48,54,48,55,48,56,48,57,49,48,49,49,49,50,49,51,49,52,49,53,49,54,49,55,49,56,49,57,50,48,50,49,50,50,50,51,50,52,50,53,50,54,50,55,50,56,50,57,51,48,51,49,51,50,51,51,51,52,51,53,51,54,51,55,51,56,51,57,52,48,52,49,52,50,52,51,52,52,52,53,52,54,52,55,52,56,52,57,53,48,53,49,53,50,53,51,53,52,53,53,53,54,53,55,53,56,53,57,54,48,54,49,54,50,54,51,54,52,54,53,54,54,54,55,54,56,54,57,55,48,55,49,55,50,55,51,55,52,55,53,55,54,55,55,55,56,55,57,56,48,56,49,56,50,56,51,56,52,56,53,56,54,56,55,56,56,56,57,57,48,57,49,57,50,57,51,57,52,57,53,57,54,57,55,57,56,57,57]))) (.tmp 49),none⟩,
 ⟨some 51,.mov (.tmp 9),none⟩,
 ⟨some 52,.ixs (.cst (.d (.str [48,48,48,49,48,50,48,51,48,52,48,53,48,54,48,55,48,56,48,57,49,48,49,49,49,50,49,51,49,52,49,53,49,54,49,55,49,56,49,57,50,48,50,49,50,50,50,51,50,52,50,53,50,54,50,55,50,56,50,57,51,48,51,49,51,50,51,51,51,52,51,53,51,54,51,55,51,56,51,57,52,48,52,49,52,50,52,51,52,52,52,53,52,54,52,55,52,56,52,57,53,48,53,49,53,50,53,51,53,52,53,53,53,54,53,55,53,56,53,57,54,48,54,49,54,50,54,51,54,52,54,53,54,54,54,55,54,56,54,57,55,48,55,49,55,50,55,51,55,52,55,53,55,54,55,55,55,56,55,57,56,48,56,49,56,50,56,51,56,52,56,53,56,54,56,55,56,56,56,57,57,48,57,49,57,50,57,51,57,52,57,53,57,54,57,55,57,56,57,57]))) (.tmp 51),none⟩,
 ⟨some 53,.ixa 1 (.tmp 42) (.tmp 44),none⟩,
 ⟨none,.st 1 (.tmp 53) (.tmp 50),none⟩,
 ⟨some 54,.ixa 1 (.tmp 45) (.tmp 47),none⟩,
 ⟨none,.st 1 (.tmp 54) (.tmp 52),none⟩] [(0,1),(0,2),(0,3),(1,3),(2,3),(0,4),(1,4),(2,4),(3,4),(0,5),(1,5),(2,5),(3,5),(0,6),(1,6),(2,6),(3,6),(4,6),(5,6),(0,7),(1,7),(2,7),(3,7),(4,7),(5,7),(0,8),(1,8),(2,8),(3,8),(4,8),(5,8),(0,9),(1,9),(2,9),(3,9),(4,9),(5,9),(6,9),(7,9),(8,9),(0,10),(1,10),(2,10),(3,10),(4,10),(5,10),(6,10),(7,10),(8,10),(3,11),(4,11),(5,11),(9,11),(10,11),(3,12),(4,12),(5,12),(9,12),(10,12)])
 (.seq
 (.regd [] [⟨some 55,.mov (.tmp 0),none⟩,
 ⟨some 56,.mov (.tmp 4),none⟩,
 ⟨some 57,.arith .sub .i64 (.tmp 56) (.cst (.d (.int .i64 3))),none⟩,
 ⟨some 58,.mov (.tmp 0),none⟩,
 ⟨some 59,.mov (.tmp 4),none⟩,
 ⟨some 60,.arith .sub .i64 (.tmp 59) (.cst (.d (.int .i64 4))),none⟩,
 ⟨some 61,.mov (.tmp 8),none⟩,
 ⟨some 62,.arith .add .u32 (.tmp 61) (.cst (.d (.int .u32 1))),none⟩,
 ⟨some 63,.ixs (.cst (.d (.str [48,48,48,49,48,50,48,51,48,52,48,53,48,54,48,55,48,56,48,57,49,48,49,49,49,50,49,51,49,52,49,53,49,54,49,55,49,56,49,57,50,48,50,49,50,50,50,51,50,52,50,53,50,54,50,55,50,56,50,57,51,48,51,49,51,50,51,51,51,52,51,53,51,54,51,55,51,56,51,57,52,48,52,49,52,50,52,51,52,52,52,53,52,54,52,55,52,56,52,57,53,48,53,49,53,50,53,51,53,52,53,53,53,54,53,55,53,56,53,57,54,48,54,49,54,50,54,51,54,52,54,53,54,54,54,55,54,56,54,57,55,48,55,49,55,50,55,51,55,52,55,53,55,54,55,55,55,56,55,57,56,48,56,49,56,50,56,51,56,52,56,53,56,54,56,55,56,56,56,57,57,48,57,49,57,50,57,51,57,52,57,53,57,54,57,55,57,56,57,57]))) (.tmp 62),none⟩,
 ⟨some 64,.mov (.tmp 8),none⟩,
 ⟨some 65,.ixs (.cst (.d (.str [48,48,48,49,48,50,48,51,48,52,48,53,48,54,48,55,48,56,48,57,49,48,49,49,49,50,49,51,49,52,49,53,49,54,49,55,49,56,49,57,50,48,50,49,50,50,50,51,50,52,50,53,50,54,50,55,50,56,50,57,51,48,51,49,51,50,51,51,51,52,51,53,51,54,51,55,51,56,51,57,52,48,52,49,52,50,52,51,52,52,52,53,52,54,52,55,52,56,52,57,53,48,53,49,53,50,53,51,53,52,53,53,53,54,53,55,53,56,53,57,54,48,54,49,54,50,54,51,54,52,54,53,54,54,54,55,54,56,54,57,55,48,55,49,55,50,55,51,55,52,55,53,55,54,55,55,55,56,55,57,56,48,56,49,56,50,56,51,56,52,56,53,56,54,56,55,56,56,56,57,57,48,57,49,57,50,57,51,57,52,57,53,57,54,57,55,57,56,57,57]))) (.tmp 64),none⟩,
 ⟨some 66,.ixa 1 (.tmp 55) (.tmp 57),none⟩,
 ⟨none,.st 1 (.tmp 66) (.tmp 63),none⟩,
 ⟨some 67,.ixa 1 (.tmp 58) (.tmp 60),none⟩,
 ⟨none,.st 1 (.tmp 67) (.tmp 65),none⟩] [(0,1),(0,2),(0,3),(1,3),(2,3),(0,4),(1,4),(2,4),(3,4),(0,5),(1,5),(2,5),(3,5),(0,6),(1,6),(2,6),(3,6),(4,6),(5,6),(0,7),(1,7),(2,7),(3,7),(4,7),(5,7),(0,8),(1,8),(2,8),(3,8),(4,8),(5,8),(0,9),(1,9),(2,9),(3,9),(4,9),(5,9),(6,9),(7,9),(8,9),(0,10),(1,10),(2,10),(3,10),(4,10),(5,10),(6,10),(7,10),(8,10),(3,11),(4,11),(5,11),(9,11),(10,11),(3,12),(4,12),(5,12),(9,12),(10,12)])
 (.seq
 (.regd [] [⟨some 68,.mov (.tmp 0),none⟩,
 ⟨some 69,.mov (.tmp 4),none⟩,
 ⟨some 70,.arith .sub .i64 (.tmp 69) (.cst (.d (.int .i64 5))),none⟩,
 ⟨some 71,.mov (.tmp 0),none⟩,
 ⟨some 72,.mov (.tmp 4),none⟩,
 ⟨some 73,.arith .sub .i64 (.tmp 72) (.cst (.d (.int .i64 6))),none⟩,
 ⟨some 74,.mov (.tmp 11),none⟩,
 ⟨some 75,.arith .add .u32 (.tmp 74) (.cst (.d (.int .u32 1))),none⟩,
 ⟨some 76,.ixs (.cst (.d (.str [48,48,48,49,48,50,48,51,48,52,48,53,48,54,48,55,48,56,48,57,49,48,49,49,49,50,49,51,49,52,49,53,49,54,49,55,49,56,49,57,50,48,50,49,50,50,50,51,50,52,50,53,50,54,50,55,50,56,50,57,51,48,51,49,51,50,51,51,51,52,51,53,51,54,51,55,51,56,51,57,52,48,52,49,52,50,52,51,52,52,52,53,52,54,52,55,52,56,52,57,53,48,53,49,53,50,53,51,53,52,53,53,53,54,53,55,53,56,53,57,54,48,54,49,54,50,54,51,54,52,54,53,54,54,54,55,54,56,54,57,55,48,55,49,55,50,55,51,55,52,55,53,55,54,55,55,55,56,55,57,56,48,56,49,56,50,56,51,56,52,56,53,56,54,56,55,56,56,56,57,57,48,57,49,57,50,57,51,57,52,57,53,57,54,57,55,57,56,57,57]))) (.tmp 75),none⟩,
 ⟨some 77,.mov (.tmp 11),none⟩,
 ⟨some 78,.ixs (.cst (.d (.str [48,48,48,49,48,50,48,51,48,52,48,53,48,54,48,55,48,56,48,57,49,48,49,49,49,50,49,51,49,52,49,53,49,54,49,55,49,56,49,57,50,48,50,49,50,50,50,51,50,52,50,53,50,54,50,55,50,56,50,57,51,48,51,49,51,50,51,51,51,52,51,53,51,54,51,55,51,56,51,57,52,48,52,49,52,50,52,51,52,52,52,53,52,54,52,55,52,56,52,57,53,48,53,49,53,50,53,51,53,52,53,53,53,54,53,55,53,56,53,57,54,48,54,49,54,50,54,51,54,52,54,53,54,54,54,55,54,56,54,57,55,48,55,49,55,50,55,51,55,52,55,53,55,54,55,55,55,56,55,57,56,48,56,49,56,50,56,51,56,52,56,53,56,54,56,55,56,56,56,57,57,48,57,49,57,50,57,51,57,52,57,53,57,54,57,55,57,56,57,57]))) (.tmp 77),none⟩,
 ⟨some 79,.ixa 1 (.tmp 68) (.tmp 70),none⟩,
 ⟨none,.st 1 (.tmp 79) (.tmp 76),none⟩,
 ⟨some 80,.ixa 1 (.tmp 71) (.tmp 73),none⟩,
 ⟨none,.st 1 (.tmp 80) (.tmp 78),none⟩] [(0,1),(0,2),(0,3),(1,3),(2,3),(0,4),(1,4),(2,4),(3,4),(0,5),(1,5),(2,5),(3,5),(0,6),(1,6),(2,6),(3,6),(4,6),(5,6),(0,7),(1,7),(2,7),(3,7),(4,7),(5,7),(0,8),(1,8),(2,8),(3,8),(4,8),(5,8),(0,9),(1,9),(2,9),(3,9),(4,9),(5,9),(6,9),(7,9),(8,9),(0,10),(1,10),(2,10),(3,10),(4,10),(5,10),(6,10),(7,10),(8,10),(3,11),(4,11),(5,11),(9,11),(10,11),(3,12),(4,12),(5,12),(9,12),(10,12)])
 (.seq
 (.regd [] [⟨some 81,.mov (.tmp 0),none⟩,
 ⟨some 82,.mov (.tmp 4),none⟩,
 ⟨some 83,.arith .sub .i64 (.tmp 82) (.cst (.d (.int .i64 7))),none⟩,
 ⟨some 84,.mov (.tmp 0),none⟩,
 ⟨some 85,.mov (.tmp 4),none⟩,
 ⟨some 86,.arith .sub .i64 (.tmp 85) (.cst (.d (.int .i64 8))),none⟩,
 ⟨some 87,.mov (.tmp 10),none⟩,
 ⟨some 88,.arith .add .u32 (.tmp 87) (.cst (.d (.int .u32 1))),none⟩,
 ⟨some 89,.ixs (.cst (.d (.str [48,48,48,49,48,50,48,51,48,52,48,53,48,54,48,55,48,56,48,57,49,48,49,49,49,50,49,51,49,52,49,53,49,54,49,55,49,56,49,57,50,48,50,49,50,50,50,51,50,52,50,53,50,54,50,55,50,56,50,57,51,48,51,49,51,50,51,51,51,52,51,53,51,54,51,55,51,56,51,57,52,48,52,49,52,50,52,51,52,52,52,53,52,54,52,55,52,56,52,57,53,48,53,49,53,50,53,51,53,52,53,53,53,54,53,55,53,56,53,57,54,48,54,49,54,50,54,51,54,52,54,53,54,54,54,55,54,56,54,57,55,48,55,49,55,50,55,51,55,52,55,53,55,54,55,55,55,56,55,57,56,48,56,49,56,50,56,51,56,52,56,53,56,54,56,55,56,56,56,57,57,48,57,49,57,50,57,51,57,52,57,53,57,54,57,55,57,56,57,57]))) (.tmp 88),none⟩,
 ⟨some 90,.mov (.tmp 10),none⟩,
 ⟨some 91,.ixs (.cst (.d (.str [48,48,48,49,48,50,48,51,48,52,48,53,48,54,48,55,48,56,48,57,49,48,49,49,49,50,49,51,49,52,49,53,49,54,49,55,49,56,49,57,50,48,50,49,50,50,50,51,50,52,50,53,50,54,50,55,50,56,50,57,51,48,51,49,51,50,51,51,51,52,51,53,51,54,51,55,51,56,51,57,52,48,52,49,52,50,52,51,52,52,52,53,52,54,52,55,52,56,52,57,53,48,53,49,53,50,53,51,53,52,53,53,53,54,53,55,53,56,53,57,54,48,54,49,54,50,54,51,54,52,54,53,54,54,54,55,54,56,54,57,55,48,55,49,55,50,55,51,55,52,55,53,55,54,55,55,55,56,55,57,56,48,56,49,56,50,56,51,56,52,56,53,56,54,56,55,56,56,56,57,57,48,57,49,57,50,57,51,57,52,57,53,57,54,57,55,57,56,57,57]))) (.tmp 90),none⟩,
 ⟨some 92,.ixa 1 (.tmp 81) (.tmp 83),none⟩,
 ⟨none,.st 1 (.tmp 92) (.tmp 89),none⟩,
 ⟨some 93,.ixa 1 (.tmp 84) (.tmp 86),none⟩,
 ⟨none,.st 1 (.tmp 93) (.tmp 91),none⟩] [(0,1),(0,2),(0,3),(1,3),(2,3),(0,4),(1,4),(2,4),(3,4),(0,5),(1,5),(2,5),(3,5),(0,6),(1,6),(2,6),(3,6),(4,6),(5,6),(0,7),(1,7),(2,7),(3,7),(4,7),(5,7),(0,8),(1,8),(2,8),(3,8),(4,8),(5,8),(0,9),(1,9),(2,9),(3,9),(4,9),(5,9),(6,9),(7,9),(8,9),(0,10),(1,10),(2,10),(3,10),(4,10),(5,10),(6,10),(7,10),(8,10),(3,11),(4,11),(5,11),(9,11),(10,11),(3,12),(4,12),(5,12),(9,12),(10,12)])
 (.reg [] [⟨some 94,.mov (.tmp 4),none⟩,
 ⟨some 95,.arith .sub .i64 (.tmp 94) (.cst (.d (.int .i64 8))),none⟩,
 ⟨some 4,.mov (.tmp 95),none⟩])))))))))))))))))
 (.seq
 (.reg [] [⟨some 96,.mov (.tmp 1),none⟩,
 ⟨some 97,.conv .u32 (.tmp 96),none⟩,
 ⟨some 12,.mov (.tmp 97),none⟩])
 (.seq
 (.seq
 (.reg [] [⟨some 98,.mov (.tmp 4),none⟩,
 ⟨some 99,.cmp .geq (.tmp 98) (.cst (.d (.int .i64 4))),none⟩])
 (.cond (.tmp 99)
 (.seq
 (.reg [] [⟨some 100,.mov (.tmp 12),none⟩,
 ⟨some 101,.arith .rem .u32 (.tmp 100) (.cst (.d (.int .u32 10000))),none⟩,
 ⟨some 13,.mov (.tmp 101),none⟩])
 (.seq
 (.reg [] [⟨some 102,.mov (.tmp 12),none⟩,
 ⟨some 103,.arith .quo .u32 (.tmp 102) (.cst (.d (.int .u32 10000))),none⟩,
 ⟨some 12,.mov (.tmp 103),none⟩])
 (.seq
 (.reg [] [⟨some 104,.mov (.tmp 13),none⟩,
 ⟨some 105,.arith .quo .u32 (.tmp 104) (.cst (.d (.int .u32 100))),none⟩,
 ⟨some 106,.arith .mul .u32 (.tmp 105) (.cst (.d (.int .u32 2))),none⟩,
 ⟨some 107,.mov (.tmp 13),none⟩,
 ⟨some 108,.arith .rem .u32 (.tmp 107) (.cst (.d (.int .u32 100))),none⟩,
 ⟨some 109,.arith .mul .u32 (.tmp 108) (.cst (.d (.int .u32 2))),none⟩,
 ⟨some 14,.mov (.tmp 106),none⟩,
 ⟨some 15,.mov (.tmp 109),none⟩])
 (.seq
 (.regd [] [⟨some 110,.mov (.tmp 0),none⟩,
 ⟨some 111,.mov (.tmp 4),none⟩,
 ⟨some 112,.arith .sub .i64 (.tmp 111) (.cst (.d (.int .i64 1))),none⟩,
 ⟨some 113,.mov (.tmp 0),none⟩,
 ⟨some 114,.mov (.tmp 4),none⟩,
 ⟨some 115,.arith .sub .i64 (.tmp 114) (.cst (.d (.int .i64 2))),none⟩,
 ⟨some 116,.mov (.tmp 15),none⟩,
 ⟨some 117,.arith .add .u32 (.tmp 116) (.cst (.d (.int .u32 1))),none⟩,
 ⟨some 118,.ixs (.cst (.d (.str [48,48,48,49,48,50,48,51,48,52,48,53,48,54,48,55,48,56,48,57,49,48,49,49,49,50,49,51,49,52,49,53,49,54,49,55,49,56,49,57,50,48,50,49,50,50,50,51,50,52,50,53,50,54,50,55,50,56,50,57,51,48,51,49,51,50,51,51,51,52,51,53,51,54,51,55,51,56,51,57,52,48,52,49,52,50,52,51,52,52,52,53,52,54,52,55,52,56,52,57,53,48,53,49,53,50,53,51,53,52,53,53,53,54,53,55,53,56,53,57,54,48,54,49,54,50,54,51,54,52,54,53,54,54,54,55,54,56,54,57,55,48,55,49,55,50,55,51,55,52,55,53,55,54,55,55,55,56,55,57,56,48,56,49,56,50,56,51,56,52,56,53,56,54,56,55,56,56,56,57,57,48,57,49,57,50,57,51,57,52,57,53,57,54,57,55,57,56,57,57]))) (.tmp 117),none⟩,
 ⟨some 119,.mov (.tmp 15),none⟩,
 ⟨some 120,.ixs (.cst (.d (.str [48,48,48,49,48,50,48,51,48,52,48,53,48,54,48,55,48,56,48,57,49,48,49,49,49,50,49,51,49,52,49,53,49,54,49,55,49,56,49,57,50,48,50,49,50,50,50,51,50,52,50,53,50,54,50,55,50,56,50,57,51,48,51,49,51,50,51,51,51,52,51,53,51,54,51,55,51,56,51,57,52,48,52,49,52,50,52,51,52,52,52,53,52,54,52,55,52,56,52,57,53,48,53,49,53,50,53,51,53,52,53,53,53,54,53,55,53,56,53,57,54,48,54,49,54,50,54,51,54,52,54,53,54,54,54,55,54,56,54,57,55,48,55,49,55,50,55,51,55,52,55,53,55,54,55,55,55,56,55,57,56,48,56,49,56,50,56,51,56,52,56,53,56,54,56,55,56,56,56,57,57,48,57,49,57,50,57,51,57,52,57,53,57,54,57,55,57,56,57,57]))) (.tmp 119),none⟩,
 ⟨some 121,.ixa 1 (.tmp 110) (.tmp 112),none⟩,
 ⟨none,.st 1 (.tmp 121) (.tmp 118),none⟩,
 ⟨some 122,.ixa 1 (.tmp 113) (.tmp 115),none⟩,
 ⟨none,.st 1 (.tmp 122) (.tmp 120),none⟩] [(0,1),(0,2),(0,3),(1,3),(2,3),(0,4),(1,4),(2,4),(3,4),(0,5),(1,5),(2,5),(3,5),(0,6),(1,6),(2,6),(3,6),(4,6),(5,6),(0,7),(1,7),(2,7),(3,7),(4,7),(5,7),(0,8),(1,8),(2,8),(3,8),(4,8),(5,8),(0,9),(1,9),(2,9),(3,9),(4,9),(5,9),(6,9),(7,9),(8,9),(0,10),(1,10),(2,10),(3,10),(4,10),(5,10),(6,10),(7,10),(8,10),(3,11),(4,11),(5,11),(9,11),(10,11),(3,12),(4,12),(5,12),(9,12),(10,12)])
 (.seq
 (.regd [] [⟨some 123,.mov (.tmp 0),none⟩,
 ⟨some 124,.mov (.tmp 4),none⟩,
 ⟨some 125,.arith .sub .i64 (.tmp 124) (.cst (.d (.int .i64 3))),none⟩,
 ⟨some 126,.mov (.tmp 0),none⟩,
 ⟨some 127,.mov (.tmp 4),none⟩,
 ⟨some 128,.arith .sub .i64 (.tmp 127) (.cst (.d (.int .i64 4))),none⟩,
 ⟨some 129,.mov (.tmp 14),none⟩,
 ⟨some 130,.arith .add .u32 (.tmp 129) (.cst (.d (.int .u32 1))),none⟩,
 ⟨some 131,.ixs (.cst (.d (.str [48,48,48,49,48,50,48,51,48,52,48,53,48,54,48,55,48,56,48,57,49,48,49,49,49,50,49,51,49,52,49,53,49,54,49,55,49,56,49,57,50,48,50,49,50,50,50,51,50,52,50,53,50,54,50,55,50,56,50,57,51,48,51,49,51,50,51,51,51,52,51,53,51,54,51,55,51,56,51,57,52,48,52,49,52,50,52,51,52,52,52,53,52,54,52,55,52,56,52,57,53,48,53,49,53,50,53,51,53,52,53,53,53,54,53,55,53,56,53,57,54,48,54,49,54,50,54,51,54,52,54,53,54,54,54,55,54,56,54,57,55,48,55,49,55,50,55,51,55,52,55,53,55,54,55,55,55,56,55,57,56,48,56,49,56,50,56,51,56,52,56,53,56,54,56,55,56,56,56,57,57,48,57,49,57,50,57,51,57,52,57,53,57,54,57,55,57,56,57,57]))) (.tmp 130),none⟩,
 ⟨some 132,.mov (.tmp 14),none⟩,
 ⟨some 133,.ixs (.cst (.d (.str [48,48,48,49,48,50,48,51,48,52,48,53,48,54,48,55,48,56,48,57,49,48,49,49,49,50,49,51,49,52,49,53,49,54,49,55,49,56,49,57,50,48,50,49,50,50,50,51,50,52,50,53,50,54,50,55,50,56,50,57,51,48,51,49,51,50,51,51,51,52,51,53,51,54,51,55,51,56,51,57,52,48,52,49,52,50,52,51,52,52,52,53,52,54,52,55,52,56,52,57,53,48,53,49,53,50,53,51,53,52,53,53,53,54,53,55,53,56,53,57,54,48,54,49,54,50,54,51,54,52,54,53,54,54,54,55,54,56,54,57,55,48,55,49,55,50,55,51,55,52,55,53,55,54,55,55,55,56,55,57,56,48,56,49,56,50,56,51,56,52,56,53,56,54,56,55,56,56,56,57,57,48,57,49,57,50,57,51,57,52,57,53,57,54,57,55,57,56,57,57]))) (.tmp 132),none⟩,
 ⟨some 134,.ixa 1 (.tmp 123) (.tmp 125),none⟩,
 ⟨none,.st 1 (.tmp 134) (.tmp 131),none⟩,
 ⟨some 135,.ixa 1 (.tmp 126) (.tmp 128),none⟩,
 ⟨none,.st 1 (.tmp 135) (.tmp 133),none⟩] [(0,1),(0,2),(0,3),(1,3),(2,3),(0,4),(1,4),(2,4),(3,4),(0,5),(1,5),(2,5),(3,5),(0,6),(1,6),(2,6),(3,6),(4,6),(5,6),(0,7),(1,7),(2,7),(3,7),(4,7),(5,7),(0,8),(1,8),(2,8),(3,8),(4,8),(5,8),(0,9),(1,9),(2,9),(3,9),(4,9),(5,9),(6,9),(7,9),(8,9),(0,10),(1,10),(2,10),(3,10),(4,10),(5,10),(6,10),(7,10),(8,10),(3,11),(4,11),(5,11),(9,11),(10,11),(3,12),(4,12),(5,12),(9,12),(10,12)])
 (.reg [] [⟨some 136,.mov (.tmp 4),none⟩,
 ⟨some 137,.arith .sub .i64 (.tmp 136) (.cst (.d (.int .i64 4))),none⟩,
 ⟨some 4,.mov (.tmp 137),none⟩]))))))
 .skip))
 (.seq
 (.seq
 (.reg [] [⟨some 138,.mov (.tmp 4),none⟩,
 ⟨some 139,.cmp .geq (.tmp 138) (.cst (.d (.int .i64 2))),none⟩])
 (.cond (.tmp 139)
 (.seq
 (.reg [] [⟨some 140,.mov (.tmp 12),none⟩,
 ⟨some 141,.arith .rem .u32 (.tmp 140) (.cst (.d (.int .u32 100))),none⟩,
 ⟨some 142,.arith .mul .u32 (.tmp 141) (.cst (.d (.int .u32 2))),none⟩,
 ⟨some 16,.mov (.tmp 142),none⟩])
 (.seq
 (.reg [] [⟨some 143,.mov (.tmp 12),none⟩,
 ⟨some 144,.arith .quo .u32 (.tmp 143) (.cst (.d (.int .u32 100))),none⟩,
 ⟨some 12,.mov (.tmp 144),none⟩])
 (.seq
 (.regd [] [⟨some 145,.mov (.tmp 0),none⟩,
 ⟨some 146,.mov (.tmp 4),none⟩,
 ⟨some 147,.arith .sub .i64 (.tmp 146) (.cst (.d (.int .i64 1))),none⟩,
 ⟨some 148,.mov (.tmp 0),none⟩,
 ⟨some 149,.mov (.tmp 4),none⟩,
 ⟨some 150,.arith .sub .i64 (.tmp 149) (.cst (.d (.int .i64 2))),none⟩,
 ⟨some 151,.mov (.tmp 16),none⟩,
 ⟨some 152,.arith .add .u32 (.tmp 151) (.cst (.d (.int .u32 1))),none⟩,
 ⟨some 153,.ixs (.cst (.d (.str [48,48,48,49,48,50,48,51,48,52,48,53,48,54,48,55,48,56,48,57,49,48,49,49,49,50,49,51,49,52,49,53,49,54,49,55,49,56,49,57,50,48,50,49,50,50,50,51,50,52,50,53,50,54,50,55,50,56,50,57,51,48,51,49,51,50,51,51,51,52,51,53,51,54,51,55,51,56,51,57,52,48,52,49,52,50,52,51,52,52,52,53,52,54,52,55,52,56,52,57,53,48,53,49,53,50,53,51,53,52,53,53,53,54,53,55,53,56,53,57,54,48,54,49,54,50,54,51,54,52,54,53,54,54,54,55,54,56,54,57,55,48,55,49,55,50,55,51,55,52,55,53,55,54,55,55,55,56,55,57,56,48,56,49,56,50,56,51,56,52,56,53,56,54,56,55,56,56,56,57,57,48,57,49,57,50,57,51,57,52,57,53,57,54,57,55,57,56,57,57]))) (.tmp 152),none⟩,
 ⟨some 154,.mov (.tmp 16),none⟩,
 ⟨some 155,.ixs (.cst (.d (.str [48,48,48,49,48,50,48,51,48,52,48,53,48,54,48,55,48,56,48,57,49,48,49,49,49,50,49,51,49,52,49,53,49,54,49,55,49,56,49,57,50,48,50,49,50,50,50,51,50,52,50,53,50,54,50,55,50,56,50,57,51,48,51,49,51,50,51,51,51,52,51,53,51,54,51,55,51,56,51,57,52,48,52,49,52,50,52,51,52,52,52,53,52,54,52,55,52,56,52,57,53,48,53,49,53,50,53,51,53,52,53,53,53,54,53,55,53,56,53,57,54,48,54,49,54,50,54,51,54,52,54,53,54,54,54,55,54,56,54,57,55,48,55,49,55,50,55,51,55,52,55,53,55,54,55,55,55,56,55,57,56,48,56,49,56,50,56,51,56,52,56,53,56,54,56,55,56,56,56,57,57,48,57,49,57,50,57,51,57,52,57,53,57,54,57,55,57,56,57,57]))) (.tmp 154),none⟩,
 ⟨some 156,.ixa 1 (.tmp 145) (.tmp 147),none⟩,
 ⟨none,.st 1 (.tmp 156) (.tmp 153),none⟩,
 ⟨some 157,.ixa 1 (.tmp 148) (.tmp 150),none⟩,
 ⟨none,.st 1 (.tmp 157) (.tmp 155),none⟩] [(0,1),(0,2),(0,3),(1,3),(2,3),(0,4),(1,4),(2,4),(3,4),(0,5),(1,5),(2,5),(3,5),(0,6),(1,6),(2,6),(3,6),(4,6),(5,6),(0,7),(1,7),(2,7),(3,7),(4,7),(5,7),(0,8),(1,8),(2,8),(3,8),(4,8),(5,8),(0,9),(1,9),(2,9),(3,9),(4,9),(5,9),(6,9),(7,9),(8,9),(0,10),(1,10),(2,10),(3,10),(4,10),(5,10),(6,10),(7,10),(8,10),(3,11),(4,11),(5,11),(9,11),(10,11),(3,12),(4,12),(5,12),(9,12),(10,12)])
 (.reg [] [⟨some 158,.mov (.tmp 4),none⟩,
 ⟨some 159,.arith .sub .i64 (.tmp 158) (.cst (.d (.int .i64 2))),none⟩,
 ⟨some 4,.mov (.tmp 159),none⟩]))))
 .skip))
 (.seq
 (.reg [] [⟨some 160,.mov (.tmp 4),none⟩,
 ⟨some 161,.cmp .gtr (.tmp 160) (.cst (.d (.int .i64 0))),none⟩])
 (.cond (.tmp 161)
 (.reg [] [⟨some 162,.mov (.tmp 0),none⟩,
 ⟨some 163,.mov (.tmp 12),none⟩,
 ⟨some 164,.arith .add .u32 (.cst (.d (.int .u32 48))) (.tmp 163),none⟩,
 ⟨some 165,.conv .u8 (.tmp 164),none⟩,
 ⟨some 166,.ixa 1 (.tmp 162) (.cst (.d (.int .i64 0))),none⟩,
 ⟨none,.st 1 (.tmp 166) (.tmp 165),none⟩])
 .skip)))))))⟩
def tx226:AFun:=⟨102,42,[.tmp 10,.tmp 11],
 (.seq
 (.reg [] [⟨some 10,.mov (.cst (.nils 1)),none⟩,
 ⟨some 11,.mov (.cst (.d (.str []))),none⟩])
 (.seq
 (.seq
 (.reg [] [⟨some 19,.mov (.tmp 2),none⟩,
 ⟨some 20,.cmp .lss (.tmp 19) (.cst (.d (.int .i64 2))),none⟩,
 ⟨some 21,.mov (.tmp 20),none⟩,
 ⟨some 22,.mov (.tmp 2),some (21,false)⟩,
 ⟨some 23,.cmp .eql (.tmp 22) (.cst (.d (.int .i64 10))),some (21,false)⟩,
 ⟨some 24,.pick (.tmp 21) (.cst (.d (.bool true))) (.tmp 23),none⟩,
 ⟨some 25,.mov (.tmp 24),none⟩,
 ⟨some 26,.mov (.tmp 2),some (25,false)⟩,
 ⟨some 27,.cmp .gtr (.tmp 26) (.cst (.d (.int .i64 36))),some (25,false)⟩,
 ⟨some 28,.pick (.tmp 25) (.cst (.d (.bool true))) (.tmp 27),none⟩])
 (.cond (.tmp 28)
 .dead
 .skip))
 (.seq
 (.reg [0] [⟨some 12,.alloc 0 [(.d (.int .u8 0)),(.d (.int .u8 0)),(.d (.int .u8 0)),(.d (.int .u8 0)),(.d (.int .u8 0)),(.d (.int .u8 0)),(.d (.int .u8 0)),(.d (.int .u8 0)),(.d (.int .u8 0)),(.d (.int .u8 0)),(.d (.int .u8 0)),(.d (.int .u8 0)),(.d (.int .u8 0)),(.d (.int .u8 0)),(.d (.int .u8 0)),(.d (.int .u8 0)),(.d (.int .u8 0)),(.d (.int .u8 0)),(.d (.int .u8 0)),(.d (.int .u8 0)),(.d (.int .u8 0)),(.d (.int .u8 0)),(.d (.int .u8 0)),(.d (.int .u8 0)),(.d (.int .u8 0)),(.d (.int .u8 0)),(.d (.int .u8 0)),(.d (.int .u8 0)),(.d (.int .u8 0)),(.d (.int .u8 0)),(.d (.int .u8 0)),(.d (.int .u8 0)),(.d (.int .u8 0)),(.d (.int .u8 0)),(.d (.int .u8 0)),(.d (.int .u8 0)),(.d (.int .u8 0)),(.d (.int .u8 0)),(.d (.int .u8 0)),(.d (.int .u8 0)),(.d (.int .u8 0)),(.d (.int .u8 0)),(.d (.int .u8 0)),(.d (.int .u8 0)),(.d (.int .u8 0)),(.d (.int .u8 0)),(.d (.int .u8 0)),(.d (.int .u8 0)),(.d (.int .u8 0)),(.d (.int .u8 0)),(.d (.int .u8 0)),(.d (.int .u8 0)),(.d (.int .u8 0)),(.d (.int .u8 0)),(.d (.int .u8 0)),(.d (.int .u8 0)),(.d (.int .u8 0)),(.d (.int .u8 0)),(.d (.int .u8 0)),(.d (.int .u8 0)),(.d (.int .u8 0)),(.d (.int .u8 0)),(.d (.int .u8 0)),(.d (.int .u8 0)),(.d (.int .u8 0))],none⟩])
 (.seq
 (.reg [] [⟨some 13,.mov (.cst (.d (.int .i64 65))),none⟩])
 (.seq
 (.seq
 (.reg [] [⟨some 30,.mov (.tmp 3),none⟩])
 (.cond (.tmp 30)
 (.reg [] [⟨some 31,.mov (.tmp 1),none⟩,
 ⟨some 32,.neg .u64 (.tmp 31),none⟩,
 ⟨some 1,.mov (.tmp 32),none⟩])
 .skip))
 (.seq
 (.seq
 (.reg [] [⟨some 33,.mov (.tmp 2),none⟩,
 ⟨some 34,.call 231 [(.tmp 33)],none⟩])
 (.cond (.tmp 34)
 (.seq
 (.reg [] [⟨some 35,.mov (.tmp 2),none⟩,
 ⟨some 36,.conv .u64 (.tmp 35),none⟩,
 ⟨some 37,.call 232 [(.tmp 36)],none⟩,
 ⟨some 38,.conv .u64 (.tmp 37),none⟩,
 ⟨some 14,.mov (.tmp 38),none⟩])
 (.seq
 (.reg [] [⟨some 39,.mov (.tmp 2),none⟩,
 ⟨some 40,.conv .u64 (.tmp 39),none⟩,
 ⟨some 15,.mov (.tmp 40),none⟩])
 (.seq
 (.reg [] [⟨some 41,.mov (.tmp 2),none⟩,
 ⟨some 42,.conv .u64 (.tmp 41),none⟩,
 ⟨some 43,.arith .sub .u64 (.tmp 42) (.cst (.d (.int .u64 1))),none⟩,
 ⟨some 16,.mov (.tmp 43),none⟩])
 (.seq
 (.post [0,1,3,4,10,11,12,13] [0]
 (.block 0
 (.keep [0,1,3,4,10,11,12,13,14,15,16] [0]
 (.loop
 (.post [0,1,3,4,10,11,12,13,14,15,16] []
 (.seq
 (.seq
 (.reg [] [⟨some 44,.mov (.tmp 1),none⟩,
 ⟨some 45,.mov (.tmp 15),none⟩,
 ⟨some 46,.cmp .geq (.tmp 44) (.tmp 45),none⟩])
 (.cond (.tmp 46)
 .skip
 (.exit 0)))
 (.block 1
 (.seq
 (.reg [] [⟨some 47,.mov (.tmp 13),none⟩,
 ⟨some 48,.arith .sub .i64 (.tmp 47) (.cst (.d (.int .i64 1))),none⟩,
 ⟨some 13,.mov (.tmp 48),none⟩])
 (.seq
 (.reg [] [⟨some 49,.mov (.tmp 13),none⟩,
 ⟨some 50,.mov (.tmp 1),none⟩,
 ⟨some 51,.mov (.tmp 16),none⟩,
 ⟨some 52,.bit .and .u64 (.tmp 50) (.tmp 51),none⟩,
 ⟨some 53,.ixs (.cst (.d (.str [48,49,50,51,52,53,54,55,56,57,97,98,99,100,101,102,103,104,105,106,107,108,109,110,111,112,113,114,115,116,117,118,119,120,121,122]))) (.tmp 52),none⟩,
 ⟨some 54,.ixp 65 1 (.tmp 12) (.tmp 49),none⟩,
 ⟨none,.st 1 (.tmp 54) (.tmp 53),none⟩])
 (.reg [] [⟨some 55,.mov (.tmp 1),none⟩,
 ⟨some 56,.mov (.tmp 14),none⟩,
 ⟨some 57,.shf .shr .u64 (.tmp 55) (.tmp 56),none⟩,
 ⟨some 1,.mov (.tmp 57),none⟩]))))))))))
 (.seq
 (.reg [] [⟨some 58,.mov (.tmp 13),none⟩,
 ⟨some 59,.arith .sub .i64 (.tmp 58) (.cst (.d (.int .i64 1))),none⟩,
 ⟨some 13,.mov (.tmp 59),none⟩])
 (.reg [] [⟨some 60,.mov (.tmp 13),none⟩,
 ⟨some 61,.mov (.tmp 1),none⟩,
 ⟨some 62,.ixs (.cst (.d (.str [48,49,50,51,52,53,54,55,56,57,97,98,99,100,101,102,103,104,105,106,107,108,109,110,111,112,113,114,115,116,117,118,119,120,121,122]))) (.tmp 61),none⟩,
 ⟨some 63,.ixp 65 1 (.tmp 12) (.tmp 60),none⟩,
 ⟨none,.st 1 (.tmp 63) (.tmp 62),none⟩]))))))
 (.seq
 (.reg [] [⟨some 64,.mov (.tmp 2),none⟩,
 ⟨some 65,.conv .u64 (.tmp 64),none⟩,
 ⟨some 17,.mov (.tmp 65),none⟩])
 (.seq
 (.post [0,1,3,4,10,11,12,13] [0]
 (.block 2
 (.keep [0,1,3,4,10,11,12,13,17] [0]
 (.loop
 (.post [0,1,3,4,10,11,12,13,17] []
 (.seq
 (.seq
 (.reg [] [⟨some 66,.mov (.tmp 1),none⟩,
 ⟨some 67,.mov (.tmp 17),none⟩,
 ⟨some 68,.cmp .geq (.tmp 66) (.tmp 67),none⟩])
 (.cond (.tmp 68)
 .skip
 (.exit 2)))
 (.block 3
 (.seq
 (.reg [] [⟨some 69,.mov (.tmp 13),none⟩,
 ⟨some 70,.arith .sub .i64 (.tmp 69) (.cst (.d (.int .i64 1))),none⟩,
 ⟨some 13,.mov (.tmp 70),none⟩])
 (.seq
 (.reg [] [⟨some 71,.mov (.tmp 1),none⟩,
 ⟨some 72,.mov (.tmp 17),none⟩,
 ⟨some 73,.arith .quo .u64 (.tmp 71) (.tmp 72),none⟩,
 ⟨some 18,.mov (.tmp 73),none⟩])
 (.seq
 (.reg [] [⟨some 74,.mov (.tmp 13),none⟩,
 ⟨some 75,.mov (.tmp 1),none⟩,
 ⟨some 76,.mov (.tmp 18),none⟩,
 ⟨some 77,.mov (.tmp 17),none⟩,
 ⟨some 78,.arith .mul .u64 (.tmp 76) (.tmp 77),none⟩,
 ⟨some 79,.arith .sub .u64 (.tmp 75) (.tmp 78),none⟩,
 ⟨some 80,.ixs (.cst (.d (.str [48,49,50,51,52,53,54,55,56,57,97,98,99,100,101,102,103,104,105,106,107,108,109,110,111,112,113,114,115,116,117,118,119,120,121,122]))) (.tmp 79),none⟩,
 ⟨some 81,.ixp 65 1 (.tmp 12) (.tmp 74),none⟩,
 ⟨none,.st 1 (.tmp 81) (.tmp 80),none⟩])
 (.reg [] [⟨some 82,.mov (.tmp 18),none⟩,
 ⟨some 1,.mov (.tmp 82),none⟩])))))))))))
 (.seq
 (.reg [] [⟨some 83,.mov (.tmp 13),none⟩,
 ⟨some 84,.arith .sub .i64 (.tmp 83) (.cst (.d (.int .i64 1))),none⟩,
 ⟨some 13,.mov (.tmp 84),none⟩])
 (.reg [] [⟨some 85,.mov (.tmp 13),none⟩,
 ⟨some 86,.mov (.tmp 1),none⟩,
 ⟨some 87,.ixs (.cst (.d (.str [48,49,50,51,52,53,54,55,56,57,97,98,99,100,101,102,103,104,105,106,107,108,109,110,111,112,113,114,115,116,117,118,119,120,121,122]))) (.tmp 86),none⟩,
 ⟨some 88,.ixp 65 1 (.tmp 12) (.tmp 85),none⟩,
 ⟨none,.st 1 (.tmp 88) (.tmp 87),none⟩]))))))
 (.seq
 (.seq
 (.reg [] [⟨some 89,.mov (.tmp 3),none⟩])
 (.cond (.tmp 89)
 (.seq
 (.reg [] [⟨some 90,.mov (.tmp 13),none⟩,
 ⟨some 91,.arith .sub .i64 (.tmp 90) (.cst (.d (.int .i64 1))),none⟩,
 ⟨some 13,.mov (.tmp 91),none⟩])
 (.reg [] [⟨some 92,.mov (.tmp 13),none⟩,
 ⟨some 93,.ixp 65 1 (.tmp 12) (.tmp 92),none⟩,
 ⟨none,.st 1 (.tmp 93) (.cst (.d (.int .u8 45))),none⟩]))
 .skip))
 (.seq
 (.seq
 (.reg [] [⟨some 94,.mov (.tmp 4),none⟩])
 (.cond (.tmp 94)
 (.seq
 (.reg [1] [⟨some 95,.mov (.tmp 0),none⟩,
 ⟨some 96,.mov (.tmp 13),none⟩,
 ⟨some 97,.sla 65 (.tmp 12) (some (.tmp 96)) none,none⟩,
 ⟨some 98,.app 1 5 1 1 (.tmp 95) (.tmp 97),none⟩,
 ⟨some 10,.mov (.tmp 98),none⟩])
 .ret)
 .skip))
 (.seq
 (.reg [] [⟨some 99,.mov (.tmp 13),none⟩,
 ⟨some 100,.sla 65 (.tmp 12) (some (.tmp 99)) none,none⟩,
 ⟨some 101,.b2s (.tmp 100),none⟩,
 ⟨some 11,.mov (.tmp 101),none⟩])
 .ret)))))))))⟩
def tx227:AFun:=⟨28,40,[.tmp 8,.tmp 9],
 (.seq
 (.reg [] [⟨some 8,.mov (.cst (.d (.int .i64 0))),none⟩,
 ⟨some 9,.mov (.cst (.d (.int .i64 0))),none⟩])
 (.seq
 (.seq
 (.regd [] [⟨some 10,.mov (.tmp 0),none⟩,
 ⟨some 11,.mov (.tmp 2),none⟩,
 ⟨some 12,.ixa 1 (.tmp 10) (.tmp 11),none⟩,
 ⟨some 13,.ld false 1 (.tmp 12),none⟩,
 ⟨some 14,.mov (.tmp 0),none⟩,
 ⟨some 15,.mov (.tmp 1),none⟩,
 ⟨some 16,.ixa 1 (.tmp 14) (.tmp 15),none⟩,
 ⟨some 17,.ld false 1 (.tmp 16),none⟩,
 ⟨some 18,.call 194 [(.tmp 13),(.tmp 17)],none⟩] [(0,1),(0,4),(1,4),(2,4),(3,4),(0,5),(1,5),(2,5),(3,5),(4,5),(0,6),(1,6),(2,6),(3,6),(0,7),(1,7),(2,7),(3,7)])
 (.cond (.tmp 18)
 (.seq
 (.reg [] [⟨some 19,.mov (.tmp 3),none⟩,
 ⟨some 20,.nck (.tmp 19),none⟩,
 ⟨some 21,.ld false 1 (.tmp 20),none⟩,
 ⟨some 22,.arith .add .i64 (.tmp 21) (.cst (.d (.int .i64 1))),none⟩,
 ⟨some 23,.nck (.tmp 19),none⟩,
 ⟨none,.st 1 (.tmp 23) (.tmp 22),none⟩])
 (.seq
 (.reg [] [⟨some 24,.mov (.tmp 2),none⟩,
 ⟨some 25,.mov (.tmp 1),none⟩,
 ⟨some 8,.mov (.tmp 24),none⟩,
 ⟨some 9,.mov (.tmp 25),none⟩])
 .ret))
 .skip))
 (.seq
 (.reg [] [⟨some 26,.mov (.tmp 1),none⟩,
 ⟨some 27,.mov (.tmp 2),none⟩,
 ⟨some 8,.mov (.tmp 26),none⟩,
 ⟨some 9,.mov (.tmp 27),none⟩])
 .ret)))⟩
def tx228:AFun:=⟨32,40,[.tmp 10,.tmp 11],
 (.seq
 (.reg [] [⟨some 10,.mov (.cst (.d (.int .i64 0))),none⟩,
 ⟨some 11,.mov (.cst (.d (.int .i64 0))),none⟩])
 (.seq
 (.seq
 (.regd [] [⟨some 12,.mov (.tmp 4),none⟩,
 ⟨some 13,.mov (.tmp 0),none⟩,
 ⟨some 14,.mov (.tmp 2),none⟩,
 ⟨some 15,.ixa 4 (.tmp 13) (.tmp 14),none⟩,
 ⟨some 16,.ld true 4 (.tmp 15),none⟩,
 ⟨some 17,.mov (.tmp 0),none⟩,
 ⟨some 18,.mov (.tmp 1),none⟩,
 ⟨some 19,.ixa 4 (.tmp 17) (.tmp 18),none⟩,
 ⟨some 20,.ld true 4 (.tmp 19),none⟩,
 ⟨some 21,.callv (.tmp 12) [(.tmp 16),(.tmp 20)],none⟩,
 ⟨some 22,.cmp .lss (.tmp 21) (.cst (.d (.int .i64 0))),none⟩] [(0,1),(0,2),(1,2),(0,3),(0,4),(0,5),(1,5),(2,5),(3,5),(4,5),(0,6),(1,6),(2,6),(3,6),(4,6),(5,6),(0,7),(1,7),(2,7),(3,7),(4,7),(0,8),(1,8),(2,8),(3,8),(4,8)])
 (.cond (.tmp 22)
 (.seq
 (.reg [] [⟨some 23,.mov (.tmp 3),none⟩,
 ⟨some 24,.nck (.tmp 23),none⟩,
 ⟨some 25,.ld false 1 (.tmp 24),none⟩,
 ⟨some 26,.arith .add .i64 (.tmp 25) (.cst (.d (.int .i64 1))),none⟩,
 ⟨some 27,.nck (.tmp 23),none⟩,
 ⟨none,.st 1 (.tmp 27) (.tmp 26),none⟩])
 (.seq
 (.reg [] [⟨some 28,.mov (.tmp 2),none⟩,
 ⟨some 29,.mov (.tmp 1),none⟩,
 ⟨some 10,.mov (.tmp 28),none⟩,
 ⟨some 11,.mov (.tmp 29),none⟩])
 .ret))
 .skip))
 (.seq
 (.reg [] [⟨some 30,.mov (.tmp 1),none⟩,
 ⟨some 31,.mov (.tmp 2),none⟩,
 ⟨some 10,.mov (.tmp 30),none⟩,
 ⟨some 11,.mov (.tmp 31),none⟩])
 .ret)))⟩
def tx229:AFun:=⟨6,40,[.tmp 2],
 (.seq
 (.reg [] [⟨some 2,.mov (.cst (.d (.int .i64 0))),none⟩])
 (.seq
 (.reg [] [⟨some 3,.mov (.tmp 0),none⟩,
 ⟨some 4,.arith .mul .i64 (.tmp 3) (.cst (.d (.int .i64 78913))),none⟩,
 ⟨some 5,.shf .shr .i64 (.tmp 4) (.cst (.d (.int .u64 18))),none⟩,
 ⟨some 2,.mov (.tmp 5),none⟩])
 .ret))⟩
def tx230:AFun:=⟨4,40,[.tmp 2],
 (.seq
 (.reg [] [⟨some 2,.mov (.cst (.d (.int .i64 0))),none⟩])
 (.seq
 (.seq
 (.reg [] [⟨some 3,.mov (.tmp 0),none⟩])
 (.cond (.tmp 3)
 (.seq
 (.reg [] [⟨some 2,.mov (.cst (.d (.int .i64 1))),none⟩])
 .ret)
 .skip))
 (.seq
 (.reg [] [⟨some 2,.mov (.cst (.d (.int .i64 0))),none⟩])
 .ret)))⟩
def tx231:AFun:=⟨8,40,[.tmp 2],
 (.seq
 (.reg [] [⟨some 2,.mov (.cst (.d (.bool false))),none⟩])
 (.seq
 (.reg [] [⟨some 3,.mov (.tmp 0),none⟩,
 ⟨some 4,.mov (.tmp 0),none⟩,
 ⟨some 5,.arith .sub .i64 (.tmp 4) (.cst (.d (.int .i64 1))),none⟩,
 ⟨some 6,.bit .and .i64 (.tmp 3) (.tmp 5),none⟩,
 ⟨some 7,.cmp .eql (.tmp 6) (.cst (.d (.int .i64 0))),none⟩,
 ⟨some 2,.mov (.tmp 7),none⟩])
 .ret))⟩
def tx232:AFun:=⟨8,40,[.tmp 2],
 (.seq
 (.reg [] [⟨some 2,.mov (.cst (.d (.int .i64 0))),none⟩])
 (.seq
 (.cond (.cst (.d (.bool false)))
 (.seq
 (.reg [] [⟨some 3,.mov (.tmp 0),none⟩,
 ⟨some 4,.conv .u32 (.tmp 3),none⟩,
 ⟨some 5,.call 233 [(.tmp 4)],none⟩,
 ⟨some 2,.mov (.tmp 5),none⟩])
 .ret)
 .skip)
 (.seq
 (.reg [] [⟨some 6,.mov (.tmp 0),none⟩,
 ⟨some 7,.call 234 [(.tmp 6)],none⟩,
 ⟨some 2,.mov (.tmp 7),none⟩])
 .ret)))⟩
def tx233:AFun:=⟨14,40,[.tmp 2],
 (.seq
 (.reg [] [⟨some 2,.mov (.cst (.d (.int .i64 0))),none⟩])
 (.seq
 (.seq
 (.reg [] [⟨some 3,.mov (.tmp 0),none⟩,
 ⟨some 4,.cmp .eql (.tmp 3) (.cst (.d (.int .u32 0))),none⟩])
 (.cond (.tmp 4)
 (.seq
 (.reg [] [⟨some 2,.mov (.cst (.d (.int .i64 32))),none⟩])
 .ret)
 .skip))
 (.seq
 (.reg [] [⟨some 5,.mov (.tmp 0),none⟩,
 ⟨some 6,.mov (.tmp 0),none⟩,
 ⟨some 7,.neg .u32 (.tmp 6),none⟩,
 ⟨some 8,.bit .and .u32 (.tmp 5) (.tmp 7),none⟩,
 ⟨some 9,.arith .mul .u32 (.tmp 8) (.cst (.d (.int .u32 125613361))),none⟩,
 ⟨some 10,.shf .shr .u32 (.tmp 9) (.cst (.d (.int .u64 27))),none⟩,
 ⟨some 11,.ixp 32 1 (.cst (.gp 3 0)) (.tmp 10),none⟩,
 ⟨some 12,.ld false 1 (.tmp 11),none⟩,
 ⟨some 13,.conv .i64 (.tmp 12),none⟩,
 ⟨some 2,.mov (.tmp 13),none⟩])
 .ret)))⟩
def tx234:AFun:=⟨14,40,[.tmp 2],
 (.seq
 (.reg [] [⟨some 2,.mov (.cst (.d (.int .i64 0))),none⟩])
 (.seq
 (.seq
 (.reg [] [⟨some 3,.mov (.tmp 0),none⟩,
 ⟨some 4,.cmp .eql (.tmp 3) (.cst (.d (.int .u64 0))),none⟩])
 (.cond (.tmp 4)
 (.seq
 (.reg [] [⟨some 2,.mov (.cst (.d (.int .i64 64))),none⟩])
 .ret)
 .skip))
 (.seq
 (.reg [] [⟨some 5,.mov (.tmp 0),none⟩,
 ⟨some 6,.mov (.tmp 0),none⟩,
 ⟨some 7,.neg .u64 (.tmp 6),none⟩,
 ⟨some 8,.bit .and .u64 (.tmp 5) (.tmp 7),none⟩,
 ⟨some 9,.arith .mul .u64 (.tmp 8) (.cst (.d (.int .u64 285870213051353865))),none⟩,
 ⟨some 10,.shf .shr .u64 (.tmp 9) (.cst (.d (.int .u64 58))),none⟩,
 ⟨some 11,.ixp 64 1 (.cst (.gp 4 0)) (.tmp 10),none⟩,
 ⟨some 12,.ld false 1 (.tmp 11),none⟩,
 ⟨some 13,.conv .i64 (.tmp 12),none⟩,
 ⟨some 2,.mov (.tmp 13),none⟩])
 .ret)))⟩
def tx252:AFun:={ jr252 with heap:=41 }
def tx253:AFun:={ jr253 with heap:=41 }
def tx254:AFun:={ jr254 with heap:=41 }
def tx255:AFun:={ jr255 with heap:=41 }
def tab09:TabL:=[
(13,41,tx13),
(14,3,tx14),
(16,3,tx16),
(17,4,tx17),
(27,7,tx27),
(28,0,tx28),
(29,7,tx29),
(30,8,tx30),
(34,0,tx34),
(35,0,tx35),
(37,5,tx37),
(39,2,tx39),
(48,0,tx48),
(50,2,tx50),
(51,5,tx51),
(53,2,tx53),
(63,0,tx63),
(65,2,tx65),
(67,4,tx67),
(69,5,tx69),
(70,4,tx70),
(71,4,tx71),
(72,2,tx72),
(73,2,tx73),
(83,3,tx83),
(86,10,tx86),
(91,0,tx91),
(96,3,tx96),
(97,1,tx97),
(98,10,tx98),
(99,0,tx99),
(100,3,tx100),
(101,0,tx101),
(102,14,tx102),
(103,0,tx103),
(104,0,tx104),
(105,0,tx105),
(106,0,tx106),
(107,2,tx107),
(108,2,tx108),
(116,0,tx116),
(117,2,tx117),
(118,0,tx118),
(119,0,tx119),
(120,0,tx120),
(121,0,tx121),
(122,0,tx122),
(123,0,tx123),
(124,1,tx124),
(125,2,tx125),
(126,0,tx126),
(127,0,tx127),
(128,0,tx128),
(129,0,tx129),
(130,2,tx130),
(131,0,tx131),
(132,2,tx132),
(133,5,tx133),
(134,0,tx134),
(135,1,tx135),
(136,2,tx136),
(137,3,tx137),
(138,2,tx138),
(139,1,tx139),
(140,0,tx140),
(141,1,tx141),
(142,3,tx142),
(143,1,tx143),
(144,3,tx144),
(147,0,tx147),
(148,0,tx148),
(149,0,tx149),
(150,1,tx150),
(153,0,tx153),
(154,3,tx154),
(155,1,tx155),
(157,0,tx157),
(158,2,tx158),
(160,0,tx160),
(161,0,tx161),
(162,0,tx162),
(163,1,tx163),
(165,1,tx165),
(166,0,tx166),
(167,0,tx167),
(168,0,tx168),
(169,0,tx169),
(170,3,tx170),
(171,2,tx171),
(172,0,tx172),
(173,1,tx173),
(174,0,tx174),
(177,0,tx177),
(178,0,tx178),
(180,0,tx180),
(181,0,tx181),
(182,0,tx182),
(186,0,tx186),
(187,1,tx187),
(188,0,tx188),
(189,0,tx189),
(190,1,tx190),
(191,1,tx191),
(192,0,tx192),
(193,0,tx193),
(194,0,tx194),
(195,0,tx195),
(196,0,tx196),
(197,0,tx197),
(198,0,tx198),
(199,0,tx199),
(201,0,tx201),
(202,0,tx202),
(203,1,tx203),
(204,1,tx204),
(205,0,tx205),
(206,0,tx206),
(207,0,tx207),
(208,0,tx208),
(209,0,tx209),
(212,1,tx212),
(213,0,tx213),
(214,0,tx214),
(215,0,tx215),
(216,0,tx216),
(217,0,tx217),
(218,0,tx218),
(219,0,tx219),
(220,0,tx220),
(223,0,tx223),
(224,0,tx224),
(225,0,tx225),
(226,2,tx226),
(227,0,tx227),
(228,0,tx228),
(229,0,tx229),
(230,0,tx230),
(231,0,tx231),
(232,0,tx232),
(233,0,tx233),
(234,0,tx234),
(252,1,tx252),
(253,1,tx253),
(254,1,tx254),
(255,1,tx255)]
theorem tab09_chk:chkT Tryz.prog tab09=true:=by kernel_rfl
end Vc
