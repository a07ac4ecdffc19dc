import Derived.Test.YthociffnlhdenaaGreatDoorG12
import Derived.Test.YthociffnlhdenaaGreatDoorG16
import Derived.Test.YthociffnlhdenaaGreatDoorG18
import Derived.Test.YthociffnlhdenaaGreatDoorG17
import Derived.Test.YthociffnlhdenaaGreatDoorG10
import Derived.Test.YthociffnlhdenaaGreatDoorG15
set_option linter.unusedSectionVars false
set_option linter.unusedVariables false
set_option linter.unusedSimpArgs false
set_option maxRecDepth 10000
set_option maxHeartbeats 4000000
namespace Vc
open Go Go.Proofs
def ir111:AFun:=⟨25,3,[.tmp 4],
 (.seq
 (.reg [0] [⟨some 2,.cbx 0 2 (.tmp 0),none⟩,
 ⟨some 4,.mov (.cst (.nils 1)),none⟩])
 (.seq
 (.reg [] [⟨some 5,.mov (.cst (.nils 1)),none⟩])
 (.seq
 (.seq
 (.reg [] [⟨some 8,.ld true 2 (.tmp 2),none⟩,
 ⟨some 9,.mov (.tmp 1),none⟩,
 ⟨some 10,.call 92 [(.tmp 8),(.tmp 9)],none⟩,
 ⟨some 11,.len (.tmp 10),none⟩,
 ⟨some 12,.mov (.cst (.d (.int .i64 0))),none⟩])
 (.post [5] [0,1,2]
 (.block 0
 (.asrow 2 3 1 5
 (.keep [5,10,11,12] [0]
 (.loop
 (.post [5,10,11,12] [1,2]
 (.seq
 (.reg [] [⟨some 13,.cmp .lss (.tmp 12) (.tmp 11),none⟩])
 (.seq
 (.cond (.tmp 13)
 .skip
 (.exit 0))
 (.seq
 (.block 1
 (.seq
 (.reg [] [⟨some 14,.mov (.tmp 12),none⟩,
 ⟨some 15,.ixa 1 (.tmp 10) (.tmp 12),none⟩,
 ⟨some 16,.ld false 1 (.tmp 15),none⟩,
 ⟨some 6,.mov (.tmp 14),none⟩,
 ⟨some 7,.mov (.tmp 16),none⟩])
 (.seq
 (.reg [] [⟨some 17,.mov (.tmp 7),none⟩,
 ⟨some 18,.cmp .geq (.tmp 17) (.cst (.d (.int .i64 0))),none⟩])
 (.cond (.tmp 18)
 (.reg [1,2] [⟨some 19,.mov (.tmp 5),none⟩,
 ⟨some 20,.mov (.tmp 6),none⟩,
 ⟨some 21,.bsl 1 3 1 1 [(.int .i64 0)] [(0,(.tmp 20))],none⟩,
 ⟨some 22,.app 2 3 1 8 (.tmp 19) (.tmp 21),none⟩,
 ⟨some 5,.mov (.tmp 22),none⟩])
 .skip))))
 (.reg [] [⟨some 23,.arith .add .i64 (.tmp 12) (.cst (.d (.int .i64 1))),none⟩,
 ⟨some 12,.mov (.tmp 23),none⟩])))))))))))
 (.seq
 (.reg [] [⟨some 24,.mov (.tmp 5),none⟩,
 ⟨some 4,.mov (.tmp 24),none⟩])
 .ret))))⟩
def ir112:AFun:=⟨17,2,[.tmp 6],
 (.seq
 (.reg [0] [⟨some 3,.cbx 0 2 (.tmp 0),none⟩,
 ⟨some 6,.mov (.cst (.d (.int .i64 0))),none⟩])
 (.seq
 (.regd [1] [⟨some 7,.ld true 2 (.tmp 3),none⟩,
 ⟨some 8,.call 27 [(.tmp 7)],none⟩,
 ⟨some 9,.ld true 2 (.tmp 3),none⟩,
 ⟨some 10,.mov (.tmp 1),none⟩,
 ⟨some 11,.call 87 [(.tmp 9),(.tmp 10)],none⟩,
 ⟨some 12,.ld true 2 (.tmp 3),none⟩,
 ⟨some 13,.mov (.tmp 2),none⟩,
 ⟨some 14,.call 87 [(.tmp 12),(.tmp 13)],none⟩,
 ⟨some 15,.bsl 1 29 1 3 [(.int .i64 0),(.int .i64 0),(.int .i64 0)] [(0,(.tmp 8)),(1,(.tmp 11)),(2,(.tmp 14))],none⟩,
 ⟨some 16,.call 86 [(.tmp 15)],none⟩,
 ⟨some 6,.mov (.tmp 16),none⟩] [(0,2),(1,2),(0,3),(1,3),(2,3),(0,5),(1,5),(2,5),(3,5),(4,5),(0,6),(1,6),(2,6),(3,6),(4,6),(5,6)])
 .ret))⟩
def ir114:AFun:=⟨7,0,[.tmp 3],
 (.seq
 (.reg [] [⟨some 3,.mov (.cst (.d (.bool false))),none⟩])
 (.seq
 (.reg [] [⟨some 4,.ld false 1 (.tmp 1),none⟩,
 ⟨some 5,.mov (.tmp 0),none⟩,
 ⟨some 6,.call 113 [(.tmp 4),(.tmp 5)],none⟩,
 ⟨some 3,.mov (.tmp 6),none⟩])
 .ret))⟩
def ir116:AFun:=⟨13,1,[.tmp 3],
 (.seq
 (.reg [0] [⟨some 2,.cbx 0 3 (.tmp 0),none⟩,
 ⟨some 3,.mov (.cst (.d (.bool false))),none⟩])
 (.seq
 (.regd [] [⟨some 4,.ld false 1 (.tmp 1),none⟩,
 ⟨some 5,.fad 0 (.tmp 2),none⟩,
 ⟨some 6,.ld false 1 (.tmp 5),none⟩,
 ⟨some 7,.callv (.tmp 4) [(.tmp 6)],none⟩,
 ⟨some 8,.ld false 1 (.tmp 1),none⟩,
 ⟨some 9,.fad 1 (.tmp 2),none⟩,
 ⟨some 10,.ld false 1 (.tmp 9),none⟩,
 ⟨some 11,.callv (.tmp 8) [(.tmp 10)],none⟩,
 ⟨some 12,.beq true (.tmp 7) (.tmp 11),none⟩,
 ⟨some 3,.mov (.tmp 12),none⟩] [(0,1),(0,2),(0,4),(1,4),(2,4),(3,4),(0,5),(1,5),(2,5),(3,5),(4,5),(0,6),(1,6),(2,6),(3,6),(4,6)])
 .ret))⟩
def ir47:AFun:=⟨75,5,[.tmp 8],
 (.seq
 (.reg [0,1] [⟨some 4,.cbx 0 2 (.tmp 0),none⟩,
 ⟨some 7,.cbx 1 1 (.tmp 3),none⟩,
 ⟨some 8,.mov (.cst (.d (.int .i64 0))),none⟩])
 (.seq
 (.seq
 (.regd [2] [⟨some 15,.ld true 2 (.tmp 4),none⟩,
 ⟨some 16,.mov (.tmp 1),none⟩,
 ⟨some 17,.mov (.tmp 2),none⟩,
 ⟨some 18,.call 112 [(.tmp 15),(.tmp 16),(.tmp 17)],none⟩,
 ⟨some 19,.ld false 1 (.tmp 7),none⟩,
 ⟨some 20,.len (.tmp 19),none⟩,
 ⟨some 21,.cmp .gtr (.tmp 20) (.cst (.d (.int .i64 32))),none⟩,
 ⟨some 22,.call 89 [(.tmp 21),(.cst (.d (.int .i64 5)))],none⟩,
 ⟨some 23,.bsl 2 29 1 2 [(.int .i64 0),(.int .i64 0)] [(0,(.tmp 18)),(1,(.tmp 22))],none⟩,
 ⟨some 24,.call 86 [(.tmp 23)],none⟩,
 ⟨some 9,.mov (.tmp 24),none⟩] [(0,1),(0,2),(1,2),(0,4),(1,4),(2,4),(3,4),(0,5),(1,5),(2,5),(3,5),(0,6),(1,6),(2,6),(3,6)])
 (.seq
 (.reg [] [⟨some 25,.mov (.tmp 9),none⟩,
 ⟨some 26,.cmp .neq (.tmp 25) (.cst (.d (.int .i64 0))),none⟩])
 (.cond (.tmp 26)
 (.seq
 (.reg [] [⟨some 27,.mov (.tmp 9),none⟩,
 ⟨some 8,.mov (.tmp 27),none⟩])
 .ret)
 .skip)))
 (.seq
 (.seq
 (.reg [] [⟨some 28,.ld false 1 (.tmp 7),none⟩,
 ⟨some 29,.len (.tmp 28),none⟩,
 ⟨some 30,.mov (.cst (.d (.int .i64 0))),none⟩])
 (.post [1,2,4,7] [0,1,2,3]
 (.block 0
 (.keep [1,2,4,7,28,29,30] [0,1,2]
 (.loop
 (.post [1,2,4,7,28,29,30] [3]
 (.seq
 (.reg [] [⟨some 31,.cmp .lss (.tmp 30) (.tmp 29),none⟩])
 (.seq
 (.cond (.tmp 31)
 .skip
 (.exit 0))
 (.seq
 (.block 1
 (.seq
 (.reg [] [⟨some 32,.mov (.tmp 30),none⟩,
 ⟨some 33,.ixa 1 (.tmp 28) (.tmp 30),none⟩,
 ⟨some 34,.ld false 1 (.tmp 33),none⟩,
 ⟨some 10,.mov (.tmp 32),none⟩,
 ⟨some 11,.mov (.tmp 34),none⟩])
 (.seq
 (.reg [3] [⟨some 35,.ld true 2 (.tmp 4),none⟩,
 ⟨some 36,.mov (.tmp 11),none⟩,
 ⟨some 37,.call 87 [(.tmp 35),(.tmp 36)],none⟩,
 ⟨some 38,.mov (.tmp 10),none⟩,
 ⟨some 39,.cmp .gtr (.tmp 38) (.cst (.d (.int .i64 0))),none⟩,
 ⟨some 40,.mov (.tmp 39),none⟩,
 ⟨some 41,.mov (.tmp 11),some (40,true)⟩,
 ⟨some 42,.ld false 1 (.tmp 7),some (40,true)⟩,
 ⟨some 43,.mov (.tmp 10),some (40,true)⟩,
 ⟨some 44,.arith .sub .i64 (.tmp 43) (.cst (.d (.int .i64 1))),some (40,true)⟩,
 ⟨some 45,.maxi (.cst (.d (.int .i64 0))) (.tmp 44),some (40,true)⟩,
 ⟨some 46,.ixa 1 (.tmp 42) (.tmp 45),some (40,true)⟩,
 ⟨some 47,.ld false 1 (.tmp 46),some (40,true)⟩,
 ⟨some 48,.cmp .leq (.tmp 41) (.tmp 47),some (40,true)⟩,
 ⟨some 49,.pick (.tmp 40) (.tmp 48) (.cst (.d (.bool false))),none⟩,
 ⟨some 50,.call 89 [(.tmp 49),(.cst (.d (.int .i64 11)))],none⟩,
 ⟨some 51,.bsl 3 29 1 2 [(.int .i64 0),(.int .i64 0)] [(0,(.tmp 37)),(1,(.tmp 50))],none⟩,
 ⟨some 52,.call 86 [(.tmp 51)],none⟩,
 ⟨some 12,.mov (.tmp 52),none⟩])
 (.seq
 (.reg [] [⟨some 53,.mov (.tmp 12),none⟩,
 ⟨some 54,.cmp .neq (.tmp 53) (.cst (.d (.int .i64 0))),none⟩])
 (.cond (.tmp 54)
 (.seq
 (.reg [] [⟨some 55,.mov (.tmp 12),none⟩,
 ⟨some 8,.mov (.tmp 55),none⟩])
 .ret)
 .skip)))))
 (.reg [] [⟨some 56,.arith .add .i64 (.tmp 30) (.cst (.d (.int .i64 1))),none⟩,
 ⟨some 30,.mov (.tmp 56),none⟩]))))))))))
 (.seq
 (.reg [4] [⟨some 57,.mkf (.func 114) [] [(.tmp 7)],none⟩,
 ⟨some 13,.alloc 4 [.undef],none⟩,
 ⟨none,.st 1 (.tmp 13) (.tmp 57),none⟩])
 (.seq
 (.reg [] [⟨some 58,.fad 1 (.tmp 4),none⟩,
 ⟨some 59,.ld false 1 (.tmp 58),none⟩,
 ⟨some 60,.mkf (.func 116) [] [(.tmp 13)],none⟩,
 ⟨some 61,.call 115 [(.tmp 59),(.tmp 60)],none⟩,
 ⟨some 14,.mov (.tmp 61),none⟩])
 (.seq
 (.reg [] [⟨some 62,.ld false 1 (.tmp 13),none⟩,
 ⟨some 63,.mov (.tmp 1),none⟩,
 ⟨some 64,.callv (.tmp 62) [(.tmp 63)],none⟩,
 ⟨some 65,.not (.tmp 64),none⟩,
 ⟨some 66,.mov (.tmp 65),none⟩,
 ⟨some 67,.ld false 1 (.tmp 13),some (66,false)⟩,
 ⟨some 68,.mov (.tmp 2),some (66,false)⟩,
 ⟨some 69,.callv (.tmp 67) [(.tmp 68)],some (66,false)⟩,
 ⟨some 70,.pick (.tmp 66) (.cst (.d (.bool true))) (.tmp 69),none⟩,
 ⟨some 71,.mov (.tmp 70),none⟩,
 ⟨some 72,.mov (.tmp 14),some (71,false)⟩,
 ⟨some 73,.pick (.tmp 71) (.cst (.d (.bool true))) (.tmp 72),none⟩,
 ⟨some 74,.call 89 [(.tmp 73),(.cst (.d (.int .i64 19)))],none⟩,
 ⟨some 8,.mov (.tmp 74),none⟩])
 .ret))))))⟩
theorem first_1 {a:Int} {l:List Int} (h:¬ a=0):firstOf (a::l)=a:=by rw [firstOf_cons,show (a != 0)=true by rw [bne_iff_ne]; exact h]; rfl
theorem first_0 {a:Int} {l:List Int} (h:a=0):firstOf (a::l)=firstOf l:=by rw [firstOf_cons,h]; rfl
theorem if_0 {v w:Int} (h:v=0):(bif v != 0 then v else w)=w:=by rw [h]; rfl
theorem if_1 {v w:Int} (h:¬ v=0):(bif v != 0 then v else w)=v:=by rw [show (v != 0)=true by rw [bne_iff_ne]; exact h]; rfl
end Vc
set_option maxRecDepth 10000
set_option maxHeartbeats 4000000
namespace Vc
open Go Go.Proofs
def ir118:AFun:=⟨38,5,[.cell 8 4 true],
 (.seq
 (.reg [0,1,2] [⟨some 4,.cbx 0 3 (.tmp 0),none⟩,
 ⟨some 5,.cbx 1 2 (.tmp 1),none⟩,
 ⟨some 8,.alloc 2 [(.d (.int .i64 0)),(.d (.int .i64 0)),(.d (.int .i64 0)),(.d (.bool false))],none⟩])
 (.seq
 (.reg [3] [⟨some 11,.fad 2 (.tmp 4),none⟩,
 ⟨some 12,.ld false 1 (.tmp 11),none⟩,
 ⟨some 13,.mov (.tmp 2),none⟩,
 ⟨some 14,.ixa 3 (.tmp 12) (.tmp 13),none⟩,
 ⟨some 15,.ld true 3 (.tmp 14),none⟩,
 ⟨some 9,.alloc 3 [(.d (.int .i64 0)),(.d (.int .i64 0)),(.d (.int .i64 0))],none⟩,
 ⟨none,.st 3 (.tmp 9) (.tmp 15),none⟩])
 (.seq
 (.seq
 (.reg [] [⟨some 16,.fad 2 (.tmp 9),none⟩,
 ⟨some 17,.ld false 1 (.tmp 16),none⟩,
 ⟨some 18,.cmp .eql (.tmp 17) (.cst (.d (.int .i64 (-1)))),none⟩])
 (.cond (.tmp 18)
 (.seq
 (.reg [] [⟨some 19,.build [(.d (.int .i64 0)),(.d (.int .i64 0)),(.d (.int .i64 0)),(.d (.bool false))] [],none⟩,
 ⟨none,.st 4 (.tmp 8) (.tmp 19),none⟩])
 .ret)
 .skip))
 (.seq
 (.regd [4] [⟨some 20,.fad 0 (.tmp 9),none⟩,
 ⟨some 21,.ld false 1 (.tmp 20),none⟩,
 ⟨some 22,.fad 1 (.tmp 9),none⟩,
 ⟨some 23,.ld false 1 (.tmp 22),none⟩,
 ⟨some 24,.ld true 2 (.tmp 5),none⟩,
 ⟨some 25,.mov (.tmp 2),none⟩,
 ⟨some 26,.mov (.tmp 3),none⟩,
 ⟨some 27,.call 91 [(.tmp 24),(.tmp 25),(.tmp 26)],none⟩,
 ⟨some 28,.arith .add .i64 (.tmp 23) (.tmp 27),none⟩,
 ⟨some 29,.mov (.tmp 2),none⟩,
 ⟨some 30,.build [(.d (.int .i64 0)),(.d (.int .i64 0)),(.d (.int .i64 0))] [(0,1,(.tmp 21)),(1,1,(.tmp 28)),(2,1,(.tmp 29))],none⟩,
 ⟨some 31,.build [(.d (.int .i64 0)),(.d (.int .i64 0)),(.d (.int .i64 0)),(.d (.bool false))] [(0,3,(.tmp 30))],none⟩,
 ⟨some 10,.alloc 4 [(.d (.int .i64 0)),(.d (.int .i64 0)),(.d (.int .i64 0)),(.d (.bool false))],none⟩,
 ⟨none,.st 4 (.tmp 10) (.tmp 31),none⟩] [(0,2),(1,2),(0,3),(1,3),(0,4),(1,4),(2,4),(3,4),(0,5),(1,5),(2,5),(3,5),(4,5),(0,6),(1,6),(2,6),(3,6),(4,6),(5,6),(0,7),(1,7),(2,7),(3,7),(0,8),(1,8),(0,9),(1,9),(2,9),(3,9),(4,9),(5,9),(6,9),(7,9),(8,9),(0,12),(1,12),(2,12),(3,12),(4,12),(5,12),(6,12),(7,12),(8,12),(9,12),(10,12),(11,12)])
 (.seq
 (.reg [] [⟨some 32,.fad 0 (.tmp 10),none⟩,
 ⟨some 33,.fad 1 (.tmp 32),none⟩,
 ⟨some 34,.ld false 1 (.tmp 33),none⟩,
 ⟨some 35,.cmp .leq (.tmp 34) (.cst (.d (.int .i64 3200))),none⟩,
 ⟨some 36,.fad 3 (.tmp 10),none⟩,
 ⟨none,.st 1 (.tmp 36) (.tmp 35),none⟩])
 (.seq
 (.reg [] [⟨some 37,.ld true 4 (.tmp 10),none⟩,
 ⟨none,.st 4 (.tmp 8) (.tmp 37),none⟩])
 .ret))))))⟩
def ir150:AFun:=⟨24,2,[.tmp 4],
 (.seq
 (.reg [0,1] [⟨some 2,.cbx 0 3 (.tmp 0),none⟩,
 ⟨some 3,.cbx 1 3 (.tmp 1),none⟩,
 ⟨some 4,.mov (.cst (.d (.bool false))),none⟩])
 (.seq
 (.reg [] [⟨some 5,.fad 0 (.tmp 2),none⟩,
 ⟨some 6,.ld false 1 (.tmp 5),none⟩,
 ⟨some 7,.fad 0 (.tmp 3),none⟩,
 ⟨some 8,.ld false 1 (.tmp 7),none⟩,
 ⟨some 9,.cmp .gtr (.tmp 6) (.tmp 8),none⟩,
 ⟨some 10,.mov (.tmp 9),none⟩,
 ⟨some 11,.fad 0 (.tmp 2),some (10,false)⟩,
 ⟨some 12,.ld false 1 (.tmp 11),some (10,false)⟩,
 ⟨some 13,.fad 0 (.tmp 3),some (10,false)⟩,
 ⟨some 14,.ld false 1 (.tmp 13),some (10,false)⟩,
 ⟨some 15,.cmp .eql (.tmp 12) (.tmp 14),some (10,false)⟩,
 ⟨some 16,.mov (.tmp 15),some (10,false)⟩,
 ⟨some 17,.fad 1 (.tmp 2),some (16,true)⟩,
 ⟨some 18,.ld false 1 (.tmp 17),some (16,true)⟩,
 ⟨some 19,.fad 1 (.tmp 3),some (16,true)⟩,
 ⟨some 20,.ld false 1 (.tmp 19),some (16,true)⟩,
 ⟨some 21,.cmp .lss (.tmp 18) (.tmp 20),some (16,true)⟩,
 ⟨some 22,.pick (.tmp 16) (.tmp 21) (.cst (.d (.bool false))),some (10,false)⟩,
 ⟨some 23,.pick (.tmp 10) (.cst (.d (.bool true))) (.tmp 22),none⟩,
 ⟨some 4,.mov (.tmp 23),none⟩])
 .ret))⟩
def ir117:AFun:=⟨32,2,[],
 (.seq
 (.reg [0,1] [⟨some 3,.box 0 3 (.tmp 0),none⟩,
 ⟨some 5,.cbx 1 4 (.tmp 2),none⟩])
 (.seq
 (.reg [] [⟨some 6,.mov (.cst (.d (.fn (.func 150) []))),none⟩])
 (.seq
 (.regd [] [⟨some 7,.mov (.tmp 1),none⟩,
 ⟨some 8,.fad 0 (.tmp 3),none⟩,
 ⟨some 9,.ld false 1 (.tmp 8),none⟩,
 ⟨some 10,.cmp .neq (.tmp 7) (.tmp 9),none⟩,
 ⟨some 11,.mov (.tmp 10),none⟩,
 ⟨some 12,.fad 3 (.tmp 5),some (11,true)⟩,
 ⟨some 13,.ld false 1 (.tmp 12),some (11,true)⟩,
 ⟨some 14,.pick (.tmp 11) (.tmp 13) (.cst (.d (.bool false))),none⟩,
 ⟨some 15,.mov (.tmp 14),none⟩,
 ⟨some 16,.mov (.tmp 6),some (15,true)⟩,
 ⟨some 17,.fad 0 (.tmp 5),some (15,true)⟩,
 ⟨some 18,.ld true 3 (.tmp 17),some (15,true)⟩,
 ⟨some 19,.fad 2 (.tmp 3),some (15,true)⟩,
 ⟨some 20,.ld false 1 (.tmp 19),some (15,true)⟩,
 ⟨some 21,.mov (.tmp 1),some (15,true)⟩,
 ⟨some 22,.ixa 3 (.tmp 20) (.tmp 21),some (15,true)⟩,
 ⟨some 23,.ld true 3 (.tmp 22),some (15,true)⟩,
 ⟨some 24,.callv (.tmp 16) [(.tmp 18),(.tmp 23)],some (15,true)⟩,
 ⟨some 25,.pick (.tmp 15) (.tmp 24) (.cst (.d (.bool false))),none⟩] [(0,1),(0,2),(9,10),(9,11),(9,12),(10,12),(11,12),(9,13),(10,13),(11,13),(9,14),(10,14),(11,14),(12,14),(13,14),(9,15),(10,15),(11,15),(9,16),(10,16),(11,16)])
 (.cond (.tmp 25)
 (.reg [] [⟨some 26,.fad 2 (.tmp 3),none⟩,
 ⟨some 27,.ld false 1 (.tmp 26),none⟩,
 ⟨some 28,.mov (.tmp 1),none⟩,
 ⟨some 29,.fad 0 (.tmp 5),none⟩,
 ⟨some 30,.ld true 3 (.tmp 29),none⟩,
 ⟨some 31,.ixa 3 (.tmp 27) (.tmp 28),none⟩,
 ⟨none,.st 3 (.tmp 31) (.tmp 30),none⟩])
 .skip))))⟩
def ir119:AFun:=⟨44,9,[.cell 6 3 true],
 (.seq
 (.reg [0,1,2] [⟨some 3,.cbx 0 3 (.tmp 0),none⟩,
 ⟨some 4,.cbx 1 2 (.tmp 1),none⟩,
 ⟨some 6,.alloc 2 [(.d (.int .i64 0)),(.d (.int .i64 0)),(.nils 3)],none⟩])
 (.seq
 (.reg [3] [⟨some 11,.ld true 3 (.tmp 3),none⟩,
 ⟨some 12,.calli 99 [(.tmp 11)],none⟩,
 ⟨some 7,.alloc 3 [(.d (.int .i64 0)),(.d (.int .i64 0)),(.nils 3)],none⟩,
 ⟨none,.st 3 (.tmp 7) (.tmp 12),none⟩])
 (.seq
 (.seq
 (.reg [] [⟨some 13,.fad 2 (.tmp 7),none⟩,
 ⟨some 14,.ld false 1 (.tmp 13),none⟩,
 ⟨some 15,.len (.tmp 14),none⟩,
 ⟨some 16,.mov (.cst (.d (.int .i64 0))),none⟩])
 (.post [6,7] [0,1,2,3]
 (.block 0
 (.keep [2,3,4,6,7,15,16] [0,1,2,3]
 (.loop
 (.post [2,3,4,6,7,15,16] []
 (.seq
 (.reg [] [⟨some 17,.cmp .lss (.tmp 16) (.tmp 15),none⟩])
 (.seq
 (.cond (.tmp 17)
 .skip
 (.exit 0))
 (.seq
 (.block 1
 (.seq
 (.reg [] [⟨some 18,.mov (.tmp 16),none⟩,
 ⟨some 8,.mov (.tmp 18),none⟩])
 (.seq
 (.reg [] [⟨some 19,.ld true 2 (.tmp 4),none⟩,
 ⟨some 20,.mov (.tmp 8),none⟩,
 ⟨some 21,.call 88 [(.tmp 19),(.tmp 20)],none⟩,
 ⟨some 22,.len (.tmp 21),none⟩,
 ⟨some 23,.mov (.cst (.d (.int .i64 0))),none⟩])
 (.post [2,3,4,6,7,15,16] [0,1,2,3]
 (.block 2
 (.keep [2,3,4,6,7,8,15,16,21,22,23] [0,1,2,3]
 (.loop
 (.post [2,3,4,6,7,8,15,16,21,22,23] [7,8]
 (.seq
 (.reg [] [⟨some 24,.cmp .lss (.tmp 23) (.tmp 22),none⟩])
 (.seq
 (.cond (.tmp 24)
 .skip
 (.exit 2))
 (.seq
 (.block 3
 (.seq
 (.reg [] [⟨some 25,.ixa 1 (.tmp 21) (.tmp 23),none⟩,
 ⟨some 26,.ld false 1 (.tmp 25),none⟩,
 ⟨some 10,.mov (.tmp 26),none⟩])
 (.seq
 (.reg [] [⟨some 27,.mov (.tmp 2),none⟩,
 ⟨some 28,.mov (.tmp 8),none⟩,
 ⟨some 29,.mov (.tmp 10),none⟩,
 ⟨some 30,.build [(.d (.int .i64 0)),(.d (.int .i64 0))] [(0,1,(.tmp 28)),(1,1,(.tmp 29))],none⟩,
 ⟨some 31,.call 109 [(.tmp 27),(.tmp 30)],none⟩,
 ⟨some 32,.not (.tmp 31),none⟩])
 (.cond (.tmp 32)
 (.regd [] [⟨some 33,.ld true 3 (.tmp 7),none⟩,
 ⟨some 34,.mov (.tmp 8),none⟩,
 ⟨some 35,.ld true 3 (.tmp 3),none⟩,
 ⟨some 36,.ld true 2 (.tmp 4),none⟩,
 ⟨some 37,.mov (.tmp 10),none⟩,
 ⟨some 38,.mov (.tmp 8),none⟩,
 ⟨some 39,.call 118 [(.tmp 35),(.tmp 36),(.tmp 37),(.tmp 38)],none⟩,
 ⟨some 40,.calli 117 [(.tmp 33),(.tmp 34),(.tmp 39)],none⟩] [(0,1),(0,2),(1,2),(0,3),(1,3),(2,3),(0,4),(1,4),(2,4),(3,4),(0,5),(1,5),(2,5),(3,5),(4,5),(0,6),(1,6)])
 .skip))))
 (.reg [] [⟨some 41,.arith .add .i64 (.tmp 23) (.cst (.d (.int .i64 1))),none⟩,
 ⟨some 23,.mov (.tmp 41),none⟩]))))))))))))
 (.reg [] [⟨some 42,.arith .add .i64 (.tmp 16) (.cst (.d (.int .i64 1))),none⟩,
 ⟨some 16,.mov (.tmp 42),none⟩]))))))))))
 (.seq
 (.reg [] [⟨some 43,.ld true 3 (.tmp 7),none⟩,
 ⟨none,.st 3 (.tmp 6) (.tmp 43),none⟩])
 .ret))))⟩
theorem betB_1 {x o:En} (h:o.nu < x.nu):x.betB o=true:=by unfold En.betB; rw [decide_eq_true h]; rfl
theorem betB_2 {x o:En} (h:¬ o.nu < x.nu) (h2:x.nu=o.nu):x.betB o=decide (x.di < o.di):=by unfold En.betB; rw [decide_eq_false h,show (x.nu==o.nu)=true by simpa using h2]; rfl
theorem betB_3 {x o:En} (h:¬ o.nu < x.nu) (h2:¬ x.nu=o.nu):x.betB o=false:=by unfold En.betB; rw [decide_eq_false h,show (x.nu==o.nu)=false by simpa using h2]; rfl
theorem c150 (x o:En):CallDet Tryz.prog 150 [.d (.agg [.int .i64 x.nu,.int .i64 x.di,.int .i64 x.ne]),.d (.agg [.int .i64 o.nu,.int .i64 o.di,.int .i64 o.ne])] [.bool (x.betB o)]:=by
 have fin:∀ b,x.betB o=b→resV [.bool b]=resV [.bool (x.betB o)]:=fun b h=>by rw [h]
 refine call_of_vc (x:=ir150) (by kernel_rfl) rfl ?_
 refine sd ?_
 refine b_lt (fun t1=>?_) (fun t1=>?_)
 refine sd ?_
 rotate_left
 refine sd ?_
 refine b_eq (fun t2=>?_) (fun t2=>?_)
 refine sd ?_
 rotate_left
 refine sd ?_
 rotate_left
 ·exact fin _ (betB_1 t1)
 ·exact fin _ (betB_2 t1 t2)
 ·exact fin _ (betB_3 t1 t2)
def ofX (m:Ms) (s:Sts) (fr w:Int):En:=bif (s.at fr).ne==-1 then ⟨0,0,0⟩ else ofE m s fr w
theorem ofX_1 {m:Ms} {s:Sts} {fr w:Int} (h:(s.at fr).ne=-1):ofX m s fr w=⟨0,0,0⟩:=by unfold ofX; rw [h]; rfl
theorem ofX_2 {m:Ms} {s:Sts} {fr w:Int} (h:¬ (s.at fr).ne=-1):ofX m s fr w=ofE m s fr w:=by unfold ofX; rw [show ((s.at fr).ne==-1)=false by simpa using h]; rfl
theorem ofB_1 {m:Ms} {s:Sts} {fr w:Int} (h:(s.at fr).ne=-1):ofB m s fr w=false:=by unfold ofB; rw [h]; rfl
theorem ofB_2 {m:Ms} {s:Sts} {fr w:Int} (h:¬ (s.at fr).ne=-1):ofB m s fr w=decide ((s.at fr).di+betw m.ls fr w≤3200):=by unfold ofB; rw [show ((s.at fr).ne==-1)=false by simpa using h]; rfl
theorem c118 (m:Ms) (s:Sts) (fr w:Int) (hf:m.fine) (h0:0≤fr) (h1:fr.toNat < s.es.length) (hd:0≤(s.at fr).di∧(s.at fr).di≤3200):CallDet Tryz.prog 118 [.d s.d,.d m.d,.d (.int .i64 fr),.d (.int .i64 w)] [.agg [.int .i64 (ofX m s fr w).nu,.int .i64 (ofX m s fr w).di,.int .i64 (ofX m s fr w).ne,.bool (ofB m s fr w)]]:=by
 have hx:=ens_atI (Sts.at_getI h1)
 have hc:=hf.rng fr w
 have h128:=hf.l128
 refine call_of_vc (x:=ir118) (by kernel_rfl) rfl ?_
 refine ix_at hx ?_ ?_
 assumption
 refine sd ?_
 refine b_eq (fun t1=>?_) (fun t1=>?_)
 rotate_left
 refine ca (c91 m _ _ (by omega)) ?_
 refine ar_add ?_ ?_
 refine an ?_ ?_
 (show (-9223372036854775808:Int)≤En.di (Sts.at s fr)+betw (Ms.ls m) fr w; omega)
 (show En.di (Sts.at s fr)+betw (Ms.ls m) fr w≤(9223372036854775807:Int); omega)
 refine sd ?_
 rotate_left
 ·exact (show resV [.agg [.int .i64 0,.int .i64 0,.int .i64 0,.bool false]]=resV [.agg [.int .i64 (ofX m s fr w).nu,.int .i64 (ofX m s fr w).di,.int .i64 (ofX m s fr w).ne,.bool (ofB m s fr w)]] by rw [ofX_1 t1,ofB_1 t1])
 ·exact (show resV [.agg [.int .i64 (s.at fr).nu,.int .i64 ((s.at fr).di+betw m.ls fr w),.int .i64 fr,.bool (decide ((s.at fr).di+betw m.ls fr w≤3200))]]=resV [.agg [.int .i64 (ofX m s fr w).nu,.int .i64 (ofX m s fr w).di,.int .i64 (ofX m s fr w).ne,.bool (ofB m s fr w)]] by rw [ofX_2 t1,ofB_2 t1]; rfl)
def hrs (co n:Int) (x:En) (is:Bool) (E:List En):List En:=match E[n.toNat]? with
 | some e=>bif !(n==co)&&(is&&x.betB e) then E.set n.toNat x else E
 | none=>E
theorem c99i_119 (s : Sts) (m : Ms) (hn : s.es.length ≤ 1048576) : CallIn Tryz.prog 99 [.d s.d] [.cbox [.int .i64 s.co, .int .i64 s.nu, .slice 3 (ens s.es)], .cbox [.slice 1 (strs m.ns), .slice 3 (lks m.ls)], .box [.d (.int .i64 0), .d (.int .i64 0), .nils 3], .none, .none, .none, .none, .none, .none] (.agg [.d (.int .i64 s.co), .d (.int .i64 s.nu), .sl 6 (ens s.es).length])
  (setAll [.cbox [.int .i64 s.co,.int .i64 s.nu,.slice 3 (ens s.es)],.cbox [.slice 1 (strs m.ns),.slice 3 (lks m.ls)],.box [.d (.int .i64 0),.d (.int .i64 0),.nils 3],.none,.none,.none,.none,.none,.none] [(4,.cbox [.int .i64 s.co,.int .i64 s.nu,.slice 3 (ens s.es)]),(5,.box [.d (.int .i64 s.co),.d (.int .i64 s.nu),.sl 6 (ens s.es).length]),(6,.row 105 3 (ens s.es) false)]):=by
 have hl:=ens_len s.es
 have e:List.take (ens s.es).length (ens s.es)++List.drop (ens s.es).length (List.replicate (ens s.es).length (.agg [.int .i64 0,.int .i64 0,.int .i64 0]))=ens s.es:=by
  rw [List.take_length,List.drop_eq_nil_of_le (by rw [List.length_replicate]; exact Nat.le_refl _),List.append_nil]
 refine callIn_of_vc 4 (x:=ir99) (by kernel_rfl) rfl rfl rfl ?_
 refine an ?_ ?_
 refine an ?_ ?_
 (show (0:Int)≤(↑(List.length (ens (Sts.es s))):Int); omega)
 refine an ?_ ?_
 (show (↑(List.length (ens (Sts.es s))):Int) * (↑(24:Nat):Int)≤(2:Int) ^ (47:Nat); omega)
 (show (↑(List.length (ens (Sts.es s))):Int)≤(2:Int) ^ (47:Nat); omega)
 refine ca (And.intro rfl (And.intro rfl (And.intro ?_ rfl))) ?_
 focus (show List.length (List.replicate (List.length (ens (Sts.es s))) (Data.agg [Data.int IntKind.i64 (0:Int),Data.int IntKind.i64 (0:Int),Data.int IntKind.i64 (0:Int)]))=List.length (ens (Sts.es s)); simp only [List.length_replicate,List.length_set,List.length_append,List.length_take,List.length_drop]; done)
 refine an ?_ ?_
 (show List.length (List.take (List.length (ens (Sts.es s))) (ens (Sts.es s))++List.drop (List.length (ens (Sts.es s))) (List.replicate (List.length (ens (Sts.es s))) (Data.agg [Data.int IntKind.i64 (0:Int),Data.int IntKind.i64 (0:Int),Data.int IntKind.i64 (0:Int)])))=List.length (ens (Sts.es s)); simp only [List.length_replicate,List.length_set,List.length_append,List.length_take,List.length_drop]; omega)
 refine sd ?_
 rotate_left
 exact congrArg (fun X=>([.cbox [.int .i64 s.co,.int .i64 s.nu,.slice 3 (ens s.es)],.cbox [.slice 1 (strs m.ns),.slice 3 (lks m.ls)],.box [.d (.int .i64 0),.d (.int .i64 0),.nils 3],.none,.cbox [.int .i64 s.co,.int .i64 s.nu,.slice 3 (ens s.es)],.box [.d (.int .i64 s.co),.d (.int .i64 s.nu),.sl 6 (ens s.es).length],.row 105 3 X false,.none,.none]:List AObj)) e
theorem c117i_119 (m : Ms) (s : Sts) (n : Int) (x e : En) (is : Bool) (E : List En) (L : Nat) (h0 : 0 ≤ n) (he : E[n.toNat]? = some e) (hL : L = (ens E).length) : CallIn Tryz.prog 117 [.agg [.d (.int .i64 s.co), .d (.int .i64 s.nu), .sl 6 L], .d (.int .i64 n), .d (.agg [.int .i64 x.nu, .int .i64 x.di, .int .i64 x.ne, .bool is])]
  [.cbox [.int .i64 s.co,.int .i64 s.nu,.slice 3 (ens s.es)],.cbox [.slice 1 (strs m.ns),.slice 3 (lks m.ls)],.box [.d (.int .i64 0),.d (.int .i64 0),.nils 3],.box [.d (.int .i64 s.co),.d (.int .i64 s.nu),.sl 6 (ens s.es).length],.cbox [.int .i64 s.co,.int .i64 s.nu,.slice 3 (ens s.es)],.box [.d (.int .i64 s.co),.d (.int .i64 s.nu),.sl 6 (ens s.es).length],.row 105 3 (ens E) false,.none,.none] (.tup []) (setAll [.cbox [.int .i64 s.co,.int .i64 s.nu,.slice 3 (ens s.es)],.cbox [.slice 1 (strs m.ns),.slice 3 (lks m.ls)],.box [.d (.int .i64 0),.d (.int .i64 0),.nils 3],.box [.d (.int .i64 s.co),.d (.int .i64 s.nu),.sl 6 (ens s.es).length],.cbox [.int .i64 s.co,.int .i64 s.nu,.slice 3 (ens s.es)],.box [.d (.int .i64 s.co),.d (.int .i64 s.nu),.sl 6 (ens s.es).length],.row 105 3 (ens E) false,.none,.none] [(7,.box [.d (.int .i64 s.co),.d (.int .i64 s.nu),.sl 6 (ens E).length]),(8,.cbox [.int .i64 x.nu,.int .i64 x.di,.int .i64 x.ne,.bool is]),(6,.row 105 3 (ens (hrs s.co n x is E)) false)]):=by
 subst hL
 have hel:=ens_len E
 have hk:n.toNat < E.length:=(List.getElem?_eq_some_iff.1 he).1
 have hed:=ens_atI he
 have hno:(bif !(n==s.co)&&(is&&x.betB e) then E.set n.toNat x else E)=E→hrs s.co n x is E=E:=fun h=>by unfold hrs; rw [he]; exact h
 refine callIn_of_vc 7 (x:=ir117) (by kernel_rfl) rfl rfl rfl ?_
 cases is
 ·have e0:hrs s.co n x false E=E:=hno (by cases (n==s.co) <;> rfl)
  rw [e0]
  refine sd ?_
  refine b_ne (fun t1=>?_) (fun t1=>?_)
  refine sd ?_
  refine sd ?_
  exact rfl
  refine sd ?_
  refine sd ?_
  refine sd ?_
  exact rfl
 ·by_cases hb:x.betB e=true
  ·by_cases hn:n=s.co
   ·have e0:hrs s.co n x true E=E:=hno (by rw [show (n==s.co)=true by rw [beq_iff_eq]; exact hn]; rfl)
    rw [e0]
    refine sd ?_
    refine b_ne (fun t1=>?_) (fun t1=>?_)
    (exfalso; omega)
    refine sd ?_
    refine sd ?_
    refine sd ?_
    exact rfl
   ·have e0:hrs s.co n x true E=E.set n.toNat x:=by unfold hrs; rw [he]; show (bif !(n==s.co)&&(true&&x.betB e) then _ else _)=_; rw [hb,show (n==s.co)=false by rw [beq_eq_false_iff_ne]; exact hn]; rfl
    rw [e0]
    refine sd ?_
    refine b_ne (fun t1=>?_) (fun t1=>?_)
    refine an ?_ ?_
    refine an ?_ ?_
    exact rfl
    refine an ?_ ?_
    exact rfl
    refine an ?_ ?_
    assumption
    (show n < (↑(List.length (ens E)):Int); omega)
    refine sd ?_
    refine ca hed ?_
    refine ca (c150 x e) ?_
    refine b_t hb ?_
    refine an ?_ ?_
    refine an ?_ ?_
    exact rfl
    refine an ?_ ?_
    exact rfl
    refine an ?_ ?_
    assumption
    (show n < (↑(List.length (ens E)):Int); omega)
    refine Exists.intro _ (Exists.intro (Vc.Data.agg [Data.int IntKind.i64 (En.nu x),Data.int IntKind.i64 (En.di x),Data.int IntKind.i64 (En.ne x)]) (And.intro (And.intro ?_ (And.intro hed (And.intro rfl (And.intro ?_ (And.intro rfl rfl))))) ?_))
    exact rfl
    (show (0:Nat)+(3:Nat)≤(1:Nat)+(1:Nat)+(1:Nat); omega)
    refine sd ?_
    rotate_left
    (exfalso; omega)
    rw [show ens (E.set n.toNat x)=(ens E).set n.toNat (.agg [.int .i64 x.nu,.int .i64 x.di,.int .i64 x.ne]) from ens_set E n.toNat x]; rfl
  ·have hb:x.betB e=false:=by cases h:x.betB e; rfl; exact absurd h hb
   have e0:hrs s.co n x true E=E:=hno (by rw [hb]; cases (n==s.co) <;> rfl)
   rw [e0]
   refine sd ?_
   refine b_ne (fun t1=>?_) (fun t1=>?_)
   refine an ?_ ?_
   refine an ?_ ?_
   exact rfl
   refine an ?_ ?_
   exact rfl
   refine an ?_ ?_
   assumption
   (show n < (↑(List.length (ens E)):Int); omega)
   refine sd ?_
   refine ca hed ?_
   refine ca (c150 x e) ?_
   refine b_f hb ?_
   refine sd ?_
   exact rfl
   refine sd ?_
   refine sd ?_
   refine sd ?_
   exact rfl
theorem hrs_hr (m : Ms) (s : Sts) (lost : List (Int × Int)) (n : Nat) (k : Int) (acc : En) (E : List En) (hn : n < E.length) (hlo : lostB lost n k = false) :
  hrs s.co n (ofX m s k n) (ofB m s k n) (E.set n acc)=E.set n (hr m s lost n acc k):=by
 have he:(E.set n acc)[(n:Int).toNat]?=some acc:=List.getElem?_set_self hn
 unfold hrs
 rw [he]
 show (bif !((n:Int)==s.co)&&(ofB m s k n&&(ofX m s k n).betB acc) then (E.set n acc).set n (ofX m s k n) else E.set n acc)=_
 have e1:(!((n:Int)==s.co)&&(ofB m s k n&&(ofX m s k n).betB acc))=hrB m s lost n k acc:=by
  unfold hrB
  rw [hlo]
  by_cases h:(s.at k).ne=-1
  ·rw [ofB_1 h]; rfl
  ·rw [ofX_2 h]; rfl
 rw [e1]
 unfold hr
 cases hb:hrB m s lost n k acc
 ·rfl
 ·have : (s.at k).ne ≠ -1 := fun h => by
   unfold hrB at hb
   rw [ofB_1 h] at hb
   simp at hb
  rw [ofX_2 this]
  show (E.set n acc).set n (ofE m s k n)=E.set n (ofE m s k n)
  rw [List.set_set]
theorem hr_lost (m:Ms) (s:Sts) (lost:List (Int × Int)) (n:Int) (k:Int) (acc:En) (hlo:lostB lost n k=true):hr m s lost n acc k=acc:=by
 unfold hr hrB; rw [hlo]; simp
theorem c119 (m:Ms) (s:Sts) (lost:List (Int × Int)) (g:Good m s) (hll:lost.length≤1048576):CallDet Tryz.prog 119 [.d s.d,.d m.d,.d (.slice 2 (prs lost))] [(s.round m lost).d]:=by
 have hf:=chk_fine g.chk
 have hl:=ens_len s.es
 have hle:=g.len
 have h32:=hf.n32
 have h128:=hf.l128
 refine call_of_vc (x:=ir119) (by kernel_rfl) rfl ?_
 refine Exists.intro _ (Exists.intro _ (And.intro (c99i_119 s m (by omega)) ?_))
 refine sd ?_
 rotate_left
 refine loop_u (fun a:Nat=>[(16,.d (.int .i64 a))]) (fun a=>[(6,.row 105 3 (ens (rndL m s lost a)) false)]) (fun a=>a≤s.es.length) (fun a=>s.es.length - a) 0 (by rw [rndL_zero]; rfl) (Nat.zero_le _) ?_
 intro n hn
 have hn:n≤s.es.length:=hn
 by_cases hnn:n < s.es.length
 ·have hbl:=ints_len (m.nbs n)
  have hbn:(m.nbs n).length≤m.ns.length:=nbs_len m n m.ns.length
  refine sd ?_
  refine b_lt (fun t1=>?_) (fun t1=>?_)
  refine ca (c88 m n (by omega) (by omega)) ?_
  rotate_left
  (exfalso; omega)
  refine loop_u (fun a:Nat=>[(23,.d (.int .i64 a))]) (fun a=>[(6,.row 105 3 (ens ((rndL m s lost n).set n (((m.nbs n).take a).foldl (hr m s lost n) (s.at n)))) false)]) (fun a=>a≤(m.nbs n).length) (fun a=>(m.nbs n).length - a) 0 (by show _=St.upd _ _ [(6,.row 105 3 (ens ((rndL m s lost n).set n (s.at n))) false)]; rw [rndL_start m s lost hnn]; rfl) (Nat.zero_le _) ?_
  intro q hq
  have hq:q≤(m.nbs n).length:=hq
  by_cases hqq:q < (m.nbs n).length
  ·refine Exists.elim (get_lt (m.nbs n) hqq) fun k hk=>?_
   have hkd:=ints_get hk
   have hkr:=nbs_in m n k (List.mem_of_getElem? hk)
   have hfs:=fold_snoc (hr m s lost n) (s.at n) hk
   have hrk:=g.rng k hkr.1 hkr.2
   generalize hacc:((m.nbs n).take q).foldl (hr m s lost n) (s.at n)=acc at hfs ⊢
   have hEl:((rndL m s lost n).set n acc).length=s.es.length:=by rw [List.length_set,rndL_len]
   have hEd:=ens_len ((rndL m s lost n).set n acc)
   have heg:((rndL m s lost n).set n acc)[(n:Int).toNat]?=some acc:=List.getElem?_set_self (by rw [rndL_len]; exact hnn)
   refine sd ?_
   refine b_lt (fun t2=>?_) (fun t2=>?_)
   refine ix_at hkd ?_ ?_
   (show (0:Int)≤(↑q:Int); omega)
   refine ca (c109 lost _ _ hll) ?_
   refine b_intro (fun t3=>?_) (fun t3=>?_)
   refine ca (c118 m s k n hf hkr.1 (by omega) hrk.2.1) ?_
   refine Exists.intro _ (Exists.intro _ (And.intro (c117i_119 m s n (ofX m s k n) acc (ofB m s k n) ((rndL m s lost n).set n acc) _ (by omega) heg (by omega)) ?_))
   refine ar_add ?_ ?_
   refine an ?_ ?_
   (show (-9223372036854775808:Int)≤(↑q:Int)+(1:Int); omega)
   (show (↑q:Int)+(1:Int)≤(9223372036854775807:Int); omega)
   rotate_left
   refine ar_add ?_ ?_
   refine an ?_ ?_
   (show (-9223372036854775808:Int)≤(↑q:Int)+(1:Int); omega)
   (show (↑q:Int)+(1:Int)≤(9223372036854775807:Int); omega)
   rotate_left
   (exfalso; omega)
   ·refine ⟨q+1,⟨hqq,by show (m.nbs n).length - (q+1) < (m.nbs n).length - q; omega⟩,?_⟩
    rw [hfs,hrs_hr m s lost n k acc _ (by rw [rndL_len]; exact hnn) (by simpa using t3)]; rfl
   ·refine ⟨q+1,⟨hqq,by show (m.nbs n).length - (q+1) < (m.nbs n).length - q; omega⟩,?_⟩
    rw [hfs,hr_lost m s lost n k acc (by simpa using t3)]; rfl
  ·have eq:q=(m.nbs n).length:=by omega
   subst eq
   rw [List.take_length]
   refine sd ?_
   refine b_lt (fun t2=>?_) (fun t2=>?_)
   (exfalso; omega)
   refine ar_add ?_ ?_
   refine an ?_ ?_
   (show (-9223372036854775808:Int)≤(↑n:Int)+(1:Int); omega)
   (show (↑n:Int)+(1:Int)≤(9223372036854775807:Int); omega)
   rotate_left
   refine ⟨n+1,⟨hnn,by show s.es.length - (n+1) < s.es.length - n; omega⟩,?_⟩
   rw [show List.foldl (hr m s lost n) (s.at n) (m.nbs n)=roundE m s lost n from rfl,rndL_next m s lost hnn]; rfl
 ·have en:n=s.es.length:=by omega
  subst en
  have hfin:(ens (rndL m s lost s.es.length)).length=(ens s.es).length:=by rw [ens_len,rndL_len,hl]
  refine sd ?_
  refine b_lt (fun t1=>?_) (fun t1=>?_)
  (exfalso; omega)
  refine an ?_ ?_
  assumption
  exact rfl
end Vc
set_option maxRecDepth 10000
set_option maxHeartbeats 4000000
namespace Vc
open Go Go.Proofs
theorem hr_ref (m:Ms) (s:Sts) (lost:List (Int × Int)) (n k:Int) (acc:En):hr m s lost n acc k=acc∨(ofB m s k n=true∧n≠s.co∧lostB lost n k=false∧(ofE m s k n).betB acc=true∧hr m s lost n acc k=ofE m s k n):=by
 unfold hr
 cases hb:hrB m s lost n k acc
 ·exact .inl rfl
 ·right
  unfold hrB at hb
  simp only [Bool.and_eq_true,Bool.not_eq_true',beq_eq_false_iff_ne] at hb
  exact ⟨hb.2.1,hb.1,hb.2.2.1,hb.2.2.2,rfl⟩
def Sts.heard (s:Sts) (m:Ms) (w fr:Int):Sts:=⟨s.co,s.nu,s.es.set w.toNat (hr m s [] w (s.at w) fr)⟩
def heaE (m:Ms) (w fr:Int):Int:=bif betw m.ls w fr==0 then 7 else 0
end Vc
set_option maxRecDepth 10000
namespace Vc
open Go Go.Proofs
theorem hit_iff {l:Lk} {a b:Int}:hit l a b=true↔l.a=min a b∧l.b=max a b:=by
 unfold hit; simp
theorem betw_mem:∀ {ls:List Lk} {a b:Int},0 < betw ls a b→∃ l∈ls,l.c=betw ls a b∧l.a=min a b∧l.b=max a b
 | [],a,b,h=>by unfold betw at h; omega
 | x::r,a,b,h=>by
  unfold betw at h ⊢
  cases hh:hit x a b
  ·rw [hh] at h
   obtain ⟨l,hl,h2⟩:=betw_mem (ls:=r) h
   exact ⟨l,List.mem_cons_of_mem _ hl,h2⟩
  ·exact ⟨x,List.mem_cons_self,rfl,hit_iff.1 hh⟩
theorem betw_of:∀ {ls:List Lk} {l:Lk},(∀ k x,ls[k]?=some x→(ls.take k).any (fun o=>sameL o x)=false)→l∈ls→l.a≤l.b→betw ls l.a l.b=l.c
 | x::r,l,h,hl,hab=>by
  unfold betw
  cases hh:hit x l.a l.b
  ·rcases List.mem_cons.1 hl with rfl | hl
   ·have:hit l l.a l.b=true:=hit_iff.2 ⟨by omega,by omega⟩
    rw [this] at hh; cases hh
   ·refine betw_of (fun k y hy=>?_) hl hab
    have:=h (k+1) y hy
    rw [List.take_succ_cons,List.any_cons,Bool.or_eq_false_iff] at this
    exact this.2
  ·rcases List.mem_cons.1 hl with rfl | hl
   ·rfl
   ·exfalso
    obtain ⟨j,hj,e⟩:=List.mem_iff_getElem.1 hl
    have:=h (j+1) l (by rw [List.getElem?_cons_succ]; exact List.getElem?_eq_some_iff.2 ⟨hj,e⟩)
    rw [List.take_succ_cons,List.any_cons,Bool.or_eq_false_iff] at this
    have h2:=hit_iff.1 hh
    have h3:sameL x l=true:=by
     unfold sameL
     rw [show (x.a==l.a)=true by rw [beq_iff_eq]; omega,show (x.b==l.b)=true by rw [beq_iff_eq]; omega]; rfl
    rw [h3] at this; cases this.1
theorem Ms.fine.betw_dir {m:Ms} (h:m.fine) {u v:Nat} {c:Int}:dir m.ls u v c↔c=betw m.ls u v∧0 < c:=by
 constructor
 ·rintro ⟨l,hl,rfl,he⟩
  have hk:=h.link hl
  have e:=betw_of (l:=l) (fun k x hx=>(linkE_zero (h.links k x hx)).2.1) hl (by omega)
  refine ⟨?_,by omega⟩
  rcases he with ⟨rfl,rfl⟩ | ⟨rfl,rfl⟩
  ·rw [show ((l.a.toNat:Nat):Int)=l.a by omega,show ((l.b.toNat:Nat):Int)=l.b by omega,e]
  ·rw [betw_comm,show ((l.a.toNat:Nat):Int)=l.a by omega,show ((l.b.toNat:Nat):Int)=l.b by omega,e]
 ·rintro ⟨rfl,h0⟩
  obtain ⟨l,hl,hc,ha,hb⟩:=betw_mem h0
  refine ⟨l,hl,hc,?_⟩
  omega
theorem nbs_iff (m:Ms) (i x:Int):x∈m.nbs i↔0≤x∧x < (m.ns.length:Int)∧0 < betw m.ls i x:=nbs_mem m i x m.ns.length
theorem round_at (m:Ms) (s:Sts) (lost:List (Int × Int)) {k:Int} (h0:0≤k) (h1:k < (s.es.length:Int)):(s.round m lost).at k=roundE m s lost k:=by
 have e:=rndL_get m s lost s.es.length (i:=k.toNat) (by omega)
 unfold Sts.at Sts.round
 show ((rndL m s lost s.es.length)[k.toNat]?).getD _=_
 rw [e,if_pos (by omega),show ((k.toNat:Nat):Int)=k by omega]; rfl
theorem round_len (m:Ms) (s:Sts) (lost:List (Int × Int)):(s.round m lost).es.length=s.es.length:=rndL_len m s lost s.es.length
theorem round_step {m:Ms} {s:Sts} (g:Good m s) (lost:List (Int × Int)) {k:Int} (h0:0≤k) (h1:k < (m.ns.length:Int)):(s.round m lost).at k=s.at k∨(k≠s.co∧∃ u:Int,0≤u∧u < (m.ns.length:Int)∧(s.at u).ne≠-1∧0 < betw m.ls u k∧(s.at u).di+betw m.ls u k≤3200∧(s.round m lost).at k=ofE m s u k∧((s.round m lost).at k).bet (s.at k)):=by
 rw [round_at m s lost h0 (by rw [g.len]; exact h1)]
 rcases (hr_fold m s lost k (m.nbs k) (s.at k)).1 with e | ⟨u,hu,hb,e⟩
 ·exact .inl e
 ·right
  have hn:=(nbs_iff m k u).1 hu
  unfold hrB ofB at hb
  simp only [Bool.and_eq_true,Bool.not_eq_true',beq_eq_false_iff_ne,decide_eq_true_eq] at hb
  refine ⟨hb.1,u,hn.1,hn.2.1,hb.2.1.1,by rw [betw_comm]; exact hn.2.2,hb.2.1.2,e,?_⟩
  show (roundE m s lost k).bet _
  unfold roundE
  rw [e]; exact betB_iff.1 hb.2.2.2
theorem round_best {m:Ms} {s:Sts} (g:Good m s) (lost:List (Int × Int)) {k u:Int} (h0:0≤k) (h1:k < (m.ns.length:Int)) (hk:k≠s.co) (hu:0≤u∧u < (m.ns.length:Int)) (hn:(s.at u).ne≠-1) (hb:0 < betw m.ls u k) (hd:(s.at u).di+betw m.ls u k≤3200) (hl:lostB lost k u=false):¬ (ofE m s u k).bet ((s.round m lost).at k):=by
 rw [round_at m s lost h0 (by rw [g.len]; exact h1)]
 have h:=(hr_fold m s lost k (m.nbs k) (s.at k)).2.1 u ((nbs_iff m k u).2 ⟨hu.1,hu.2,by rw [betw_comm]; exact hb⟩)
 intro hbet
 have e:hrB m s lost k u (roundE m s lost k)=true:=by
  unfold hrB ofB
  simp only [Bool.and_eq_true,Bool.not_eq_true',beq_eq_false_iff_ne,decide_eq_true_eq]
  exact ⟨hk,⟨hn,hd⟩,hl,betB_iff.2 hbet⟩
 unfold roundE at e
 rw [h] at e; cases e
theorem Good.round {m:Ms} {s:Sts} (g:Good m s) (lost:List (Int × Int)):Good m (s.round m lost) :=
 g.hears rfl rfl (round_len m s lost) fun _ h0 h1=>round_step g lost h0 h1
def Sts.rounds (m:Ms) (s:Sts):Nat→Sts
 | 0=>s
 | k+1=>(Sts.rounds m s k).round m []
theorem Good.rounds {m:Ms} {s:Sts} (g:Good m s):∀ k,Good m (s.rounds m k)
 | 0=>g
 | k+1=>(Good.rounds g k).round []
theorem rounds_co (m:Ms) (s:Sts):∀ k,(s.rounds m k).co=s.co
 | 0=>rfl
 | k+1=>rounds_co m s k
theorem rounds_len (m:Ms) (s:Sts):∀ k,(s.rounds m k).es.length=s.es.length
 | 0=>rfl
 | k+1=>(round_len m _ _).trans (rounds_len m s k)
theorem sts_ext {s t:Sts} (hc:s.co=t.co) (hn:s.nu=t.nu) (hl:s.es.length=t.es.length) (h:∀ v:Nat,v < s.es.length→s.at v=t.at v):s=t:=by
 have e:s.es=t.es:=by
  apply List.ext_getElem?
  intro i
  by_cases hi:i < s.es.length
  ·rw [Sts.at_get hi,Sts.at_get (by omega),h i hi]
  ·rw [List.getElem?_eq_none (by omega),List.getElem?_eq_none (by omega)]
 cases s; cases t
 simp only at hc hn e
 subst hc; subst hn; subst e; rfl
theorem Good.waves {m:Ms} {s:Sts} (g:Good m s):Waves m.ns.length (fun u v c=>v≠s.co.toNat∧dir m.ls u v c) (fun k v=>(s.rounds m k).at v) where
 step:=fun k v hv=>by
  have gk:=g.rounds k
  rcases round_step gk [] (k:=(v:Int)) (by omega) (by omega) with e | ⟨h1,u,h2,h3,h4,h5,h6,h7,h8⟩
  ·exact .inl e
  ·right
   have hco:=g.co
   rw [rounds_co] at h1
   refine ⟨u.toNat,betw m.ls u v,by omega,⟨by omega,(chk_fine g.chk).betw_dir.2 ⟨by rw [show ((u.toNat:Nat):Int)=u by omega],h5⟩⟩,?_,?_,?_,h8⟩
   ·rw [show ((u.toNat:Nat):Int)=u by omega]; exact h4
   ·rw [show ((u.toNat:Nat):Int)=u by omega]; exact h6
   ·show ((s.rounds m k).round m []).at v=_
    rw [h7,show ((u.toNat:Nat):Int)=u by omega]; rfl
 best:=fun k v u c hv hu ho hn hc=>by
  have gk:=g.rounds k
  have hd:=(chk_fine g.chk).betw_dir.1 ho.2
  have hco:=g.co
  have:=round_best gk [] (k:=(v:Int)) (u:=(u:Int)) (by omega) (by omega) (by rw [rounds_co]; have:=ho.1; omega) ⟨by omega,by omega⟩ hn (by omega) (by rw [← hd.1]; exact hc) rfl
  rw [hd.1]
  exact this
 cost:=fun u v c ho=>by have:=((chk_fine g.chk).betw_dir.1 ho.2).2; omega
theorem Good.rest {m:Ms} {s:Sts} (g:Good m s) {k:Nat} (hk:m.ns.length≤k+1):s.rounds m (k+1)=s.rounds m k:=by
 have gl:=g.len
 refine sts_ext rfl rfl (round_len m _ _) fun v hv=>?_
 rw [rounds_len,gl] at hv
 exact g.waves.rest k v hv hk
instance : DecidableEq En := fun _ _ => decidable_of_iff _ En.same_iff
def restK (m:Ms) (s:Sts):Nat→Nat→Nat
 | 0,k=>k
 | f+1,k=>if (s.rounds m (k+1)).es=(s.rounds m k).es then k else restK m s f (k+1)
def Sts.K (m:Ms) (s:Sts):Nat:=restK m s m.ns.length 0
end Vc
set_option maxRecDepth 10000
set_option maxHeartbeats 4000000
namespace Vc
open Go Go.Proofs
def ir120:AFun:=⟨26,0,[.tmp 4],
 (.seq
 (.reg [] [⟨some 4,.mov (.cst (.d (.bool false))),none⟩])
 (.seq
 (.seq
 (.reg [] [⟨some 6,.mov (.tmp 0),none⟩,
 ⟨some 7,.len (.tmp 6),none⟩,
 ⟨some 8,.mov (.tmp 1),none⟩,
 ⟨some 9,.len (.tmp 8),none⟩,
 ⟨some 10,.cmp .neq (.tmp 7) (.tmp 9),none⟩])
 (.cond (.tmp 10)
 (.seq
 (.reg [] [⟨some 4,.mov (.cst (.d (.bool false))),none⟩])
 .ret)
 .skip))
 (.seq
 (.seq
 (.reg [] [⟨some 11,.mov (.tmp 0),none⟩,
 ⟨some 12,.len (.tmp 11),none⟩,
 ⟨some 13,.mov (.cst (.d (.int .i64 0))),none⟩])
 (.post [] []
 (.block 0
 (.keep [0,1,12,13] []
 (.loop
 (.post [0,1,12,13] []
 (.seq
 (.reg [] [⟨some 14,.cmp .lss (.tmp 13) (.tmp 12),none⟩])
 (.seq
 (.cond (.tmp 14)
 .skip
 (.exit 0))
 (.seq
 (.block 1
 (.seq
 (.reg [] [⟨some 15,.mov (.tmp 13),none⟩,
 ⟨some 5,.mov (.tmp 15),none⟩])
 (.seq
 (.regd [] [⟨some 16,.mov (.tmp 0),none⟩,
 ⟨some 17,.mov (.tmp 5),none⟩,
 ⟨some 18,.ixa 3 (.tmp 16) (.tmp 17),none⟩,
 ⟨some 19,.ld true 3 (.tmp 18),none⟩,
 ⟨some 20,.mov (.tmp 1),none⟩,
 ⟨some 21,.mov (.tmp 5),none⟩,
 ⟨some 22,.ixa 3 (.tmp 20) (.tmp 21),none⟩,
 ⟨some 23,.ld true 3 (.tmp 22),none⟩,
 ⟨some 24,.aeq true [0,0,0] (.tmp 19) (.tmp 23),none⟩] [(0,1),(0,4),(1,4),(2,4),(3,4),(0,5),(1,5),(2,5),(3,5),(4,5),(0,6),(1,6),(2,6),(3,6),(0,7),(1,7),(2,7),(3,7)])
 (.cond (.tmp 24)
 (.seq
 (.reg [] [⟨some 4,.mov (.cst (.d (.bool false))),none⟩])
 .ret)
 .skip))))
 (.reg [] [⟨some 25,.arith .add .i64 (.tmp 13) (.cst (.d (.int .i64 1))),none⟩,
 ⟨some 13,.mov (.tmp 25),none⟩]))))))))))
 (.seq
 (.reg [] [⟨some 4,.mov (.cst (.d (.bool true))),none⟩])
 .ret))))⟩
def ir53:AFun:=⟨25,4,[.cell 6 3 true,.tmp 7],
 (.seq
 (.reg [0,1,2] [⟨some 3,.cbx 0 2 (.tmp 0),none⟩,
 ⟨some 4,.cbx 1 3 (.tmp 1),none⟩,
 ⟨some 6,.alloc 2 [(.d (.int .i64 0)),(.d (.int .i64 0)),(.nils 3)],none⟩,
 ⟨some 7,.mov (.cst (.d (.int .i64 0))),none⟩])
 (.seq
 (.seq
 (.regd [3] [⟨some 9,.ld true 2 (.tmp 3),none⟩,
 ⟨some 10,.ld true 3 (.tmp 4),none⟩,
 ⟨some 11,.call 37 [(.tmp 9),(.tmp 10)],none⟩,
 ⟨some 12,.ld true 2 (.tmp 3),none⟩,
 ⟨some 13,.mov (.tmp 2),none⟩,
 ⟨some 14,.call 107 [(.tmp 12),(.tmp 13)],none⟩,
 ⟨some 15,.bsl 3 29 1 2 [(.int .i64 0),(.int .i64 0)] [(0,(.tmp 11)),(1,(.tmp 14))],none⟩,
 ⟨some 16,.call 86 [(.tmp 15)],none⟩,
 ⟨some 8,.mov (.tmp 16),none⟩] [(0,1),(0,3),(1,3),(2,3),(0,4),(1,4),(2,4),(3,4)])
 (.seq
 (.reg [] [⟨some 17,.mov (.tmp 8),none⟩,
 ⟨some 18,.cmp .neq (.tmp 17) (.cst (.d (.int .i64 0))),none⟩])
 (.cond (.tmp 18)
 (.seq
 (.reg [] [⟨some 19,.build [(.d (.int .i64 0)),(.d (.int .i64 0)),(.nils 3)] [],none⟩,
 ⟨some 20,.mov (.tmp 8),none⟩,
 ⟨none,.st 3 (.tmp 6) (.tmp 19),none⟩,
 ⟨some 7,.mov (.tmp 20),none⟩])
 .ret)
 .skip)))
 (.seq
 (.reg [] [⟨some 21,.ld true 3 (.tmp 4),none⟩,
 ⟨some 22,.ld true 2 (.tmp 3),none⟩,
 ⟨some 23,.mov (.tmp 2),none⟩,
 ⟨some 24,.call 119 [(.tmp 21),(.tmp 22),(.tmp 23)],none⟩,
 ⟨none,.st 3 (.tmp 6) (.tmp 24),none⟩,
 ⟨some 7,.mov (.cst (.d (.int .i64 0))),none⟩])
 .ret)))⟩
def ir52:AFun:=⟨44,11,[.cell 8 3 true,.tmp 9],
 (.seq
 (.reg [0,1,2] [⟨some 4,.cbx 0 2 (.tmp 0),none⟩,
 ⟨some 5,.cbx 1 3 (.tmp 1),none⟩,
 ⟨some 8,.alloc 2 [(.d (.int .i64 0)),(.d (.int .i64 0)),(.nils 3)],none⟩,
 ⟨some 9,.mov (.cst (.d (.int .i64 0))),none⟩])
 (.seq
 (.seq
 (.regd [3] [⟨some 12,.ld true 2 (.tmp 4),none⟩,
 ⟨some 13,.ld true 3 (.tmp 5),none⟩,
 ⟨some 14,.call 37 [(.tmp 12),(.tmp 13)],none⟩,
 ⟨some 15,.ld true 2 (.tmp 4),none⟩,
 ⟨some 16,.mov (.tmp 2),none⟩,
 ⟨some 17,.call 87 [(.tmp 15),(.tmp 16)],none⟩,
 ⟨some 18,.ld true 2 (.tmp 4),none⟩,
 ⟨some 19,.mov (.tmp 3),none⟩,
 ⟨some 20,.call 87 [(.tmp 18),(.tmp 19)],none⟩,
 ⟨some 21,.bsl 3 29 1 3 [(.int .i64 0),(.int .i64 0),(.int .i64 0)] [(0,(.tmp 14)),(1,(.tmp 17)),(2,(.tmp 20))],none⟩,
 ⟨some 22,.call 86 [(.tmp 21)],none⟩,
 ⟨some 10,.mov (.tmp 22),none⟩] [(0,1),(0,3),(1,3),(2,3),(0,4),(1,4),(2,4),(3,4),(0,6),(1,6),(2,6),(3,6),(4,6),(5,6),(0,7),(1,7),(2,7),(3,7),(4,7),(5,7),(6,7)])
 (.seq
 (.reg [] [⟨some 23,.mov (.tmp 10),none⟩,
 ⟨some 24,.cmp .neq (.tmp 23) (.cst (.d (.int .i64 0))),none⟩])
 (.cond (.tmp 24)
 (.seq
 (.reg [] [⟨some 25,.build [(.d (.int .i64 0)),(.d (.int .i64 0)),(.nils 3)] [],none⟩,
 ⟨some 26,.mov (.tmp 10),none⟩,
 ⟨none,.st 3 (.tmp 8) (.tmp 25),none⟩,
 ⟨some 9,.mov (.tmp 26),none⟩])
 .ret)
 .skip)))
 (.seq
 (.seq
 (.reg [] [⟨some 27,.ld true 2 (.tmp 4),none⟩,
 ⟨some 28,.mov (.tmp 2),none⟩,
 ⟨some 29,.mov (.tmp 3),none⟩,
 ⟨some 30,.call 91 [(.tmp 27),(.tmp 28),(.tmp 29)],none⟩,
 ⟨some 31,.cmp .eql (.tmp 30) (.cst (.d (.int .i64 0))),none⟩])
 (.cond (.tmp 31)
 (.seq
 (.reg [] [⟨some 32,.build [(.d (.int .i64 0)),(.d (.int .i64 0)),(.nils 3)] [],none⟩,
 ⟨none,.st 3 (.tmp 8) (.tmp 32),none⟩,
 ⟨some 9,.mov (.cst (.d (.int .i64 7))),none⟩])
 .ret)
 .skip))
 (.seq
 (.reg [4] [⟨some 33,.ld true 3 (.tmp 5),none⟩,
 ⟨some 34,.calli 99 [(.tmp 33)],none⟩,
 ⟨some 11,.alloc 4 [(.d (.int .i64 0)),(.d (.int .i64 0)),(.nils 3)],none⟩,
 ⟨none,.st 3 (.tmp 11) (.tmp 34),none⟩])
 (.seq
 (.regd [] [⟨some 35,.ld true 3 (.tmp 11),none⟩,
 ⟨some 36,.mov (.tmp 2),none⟩,
 ⟨some 37,.ld true 3 (.tmp 5),none⟩,
 ⟨some 38,.ld true 2 (.tmp 4),none⟩,
 ⟨some 39,.mov (.tmp 3),none⟩,
 ⟨some 40,.mov (.tmp 2),none⟩,
 ⟨some 41,.call 118 [(.tmp 37),(.tmp 38),(.tmp 39),(.tmp 40)],none⟩,
 ⟨some 42,.calli 117 [(.tmp 35),(.tmp 36),(.tmp 41)],none⟩] [(0,1),(0,2),(1,2),(0,3),(1,3),(2,3),(0,4),(1,4),(2,4),(3,4),(0,5),(1,5),(2,5),(3,5),(4,5),(0,6),(1,6)])
 (.seq
 (.reg [] [⟨some 43,.ld true 3 (.tmp 11),none⟩,
 ⟨none,.st 3 (.tmp 8) (.tmp 43),none⟩,
 ⟨some 9,.mov (.cst (.d (.int .i64 0))),none⟩])
 .ret))))))⟩
def Sts.roundP (m:Ms) (s:Sts) (lost:List (Int × Int)):Sts:=bif firstOf [m.chkS s,pairsE m lost] != 0 then Sts.zero else s.round m lost
theorem c53 (m:Ms) (s:Sts) (lost:List (Int × Int)) (hm:m.ns.length≤1048576) (hl2:m.ls.length≤1048576) (hn:s.es.length≤1048576) (hll:lost.length≤1048576):CallDet Tryz.prog 53 [.d m.d,.d s.d,.d (.slice 2 (prs lost))] [(s.roundP m lost).d,.int .i64 (firstOf [m.chkS s,pairsE m lost])]:=by
 have bad:¬ firstOf [m.chkS s,pairsE m lost]=0→resV [.agg [.int .i64 0,.int .i64 0,.slice 3 []],.int .i64 (firstOf [m.chkS s,pairsE m lost])]=resV [(s.roundP m lost).d,.int .i64 (firstOf [m.chkS s,pairsE m lost])]:=fun h=>by
  unfold Sts.roundP; rw [show (firstOf [m.chkS s,pairsE m lost] != 0)=true by rw [bne_iff_ne]; exact h]; rfl
 have fin:firstOf [m.chkS s,pairsE m lost]=0→resV [(s.round m lost).d,.int .i64 0]=resV [(s.roundP m lost).d,.int .i64 (firstOf [m.chkS s,pairsE m lost])]:=fun h=>by
  unfold Sts.roundP; rw [h]; rfl
 refine call_of_vc (x:=ir53) (by kernel_rfl) rfl ?_
 refine ca (c37 m s hm hl2 hn) ?_
 refine ca (c107 m lost hll) ?_
 refine sd ?_
 refine sd ?_
 refine ca (c86 [Ms.chkS m s,pairsE m lost] (by simp)) ?_
 refine sd ?_
 refine b_ne (fun t1=>?_) (fun t1=>?_)
 rotate_left
 refine ca (c119 m s lost (good_of (firstOf_zero ‹_› (m.chkS s) (by simp))) hll) ?_
 rotate_left
 ·exact bad t1
 ·exact fin t1
theorem hrs_heard (m:Ms) (s:Sts) (w fr:Int) (h0:0≤w) (h1:w.toNat < s.es.length):hrs s.co w (ofX m s fr w) (ofB m s fr w) s.es=(s.heard m w fr).es:=by
 have same:s.es.set w.toNat (s.at w)=s.es:=by
  apply List.ext_getElem?
  intro i
  by_cases e:w.toNat=i
  ·subst e; rw [List.getElem?_set_self h1,Sts.at_getI h1]
  ·rw [List.getElem?_set_ne e]
 have h:=hrs_hr m s [] w.toNat fr (s.at w) s.es h1 rfl
 rw [same,show ((w.toNat:Nat):Int)=w by omega] at h
 exact h
theorem c99i_52 (m : Ms) (s : Sts) (a b c : Int) (hn : s.es.length ≤ 1048576) : CallIn Tryz.prog 99 [.d s.d] [.cbox [.slice 1 (strs m.ns), .slice 3 (lks m.ls)], .cbox [.int .i64 s.co, .int .i64 s.nu, .slice 3 (ens s.es)], .box [.d (.int .i64 0), .d (.int .i64 0), .nils 3], .row 29 1 [.int .i64 a, .int .i64 b, .int .i64 c] false, .none, .none, .none, .none, .none, .none, .none] (.agg [.d (.int .i64 s.co), .d (.int .i64 s.nu), .sl 7 (ens s.es).length])
  (setAll [.cbox [.slice 1 (strs m.ns),.slice 3 (lks m.ls)],.cbox [.int .i64 s.co,.int .i64 s.nu,.slice 3 (ens s.es)],.box [.d (.int .i64 0),.d (.int .i64 0),.nils 3],.row 29 1 [.int .i64 a,.int .i64 b,.int .i64 c] false,.none,.none,.none,.none,.none,.none,.none] [(5,.cbox [.int .i64 s.co,.int .i64 s.nu,.slice 3 (ens s.es)]),(6,.box [.d (.int .i64 s.co),.d (.int .i64 s.nu),.sl 7 (ens s.es).length]),(7,.row 105 3 (ens s.es) false)]):=by
 have hl:=ens_len s.es
 have e:List.take (ens s.es).length (ens s.es)++List.drop (ens s.es).length (List.replicate (ens s.es).length (.agg [.int .i64 0,.int .i64 0,.int .i64 0]))=ens s.es:=by
  rw [List.take_length,List.drop_eq_nil_of_le (by rw [List.length_replicate]; exact Nat.le_refl _),List.append_nil]
 refine callIn_of_vc 5 (x:=ir99) (by kernel_rfl) rfl rfl rfl ?_
 refine an ?_ ?_
 refine an ?_ ?_
 (show (0:Int)≤(↑(List.length (ens (Sts.es s))):Int); omega)
 refine an ?_ ?_
 (show (↑(List.length (ens (Sts.es s))):Int) * (↑(24:Nat):Int)≤(2:Int) ^ (47:Nat); omega)
 (show (↑(List.length (ens (Sts.es s))):Int)≤(2:Int) ^ (47:Nat); omega)
 refine ca (And.intro rfl (And.intro rfl (And.intro ?_ rfl))) ?_
 focus (show List.length (List.replicate (List.length (ens (Sts.es s))) (Data.agg [Data.int IntKind.i64 (0:Int),Data.int IntKind.i64 (0:Int),Data.int IntKind.i64 (0:Int)]))=List.length (ens (Sts.es s)); simp only [List.length_replicate,List.length_set,List.length_append,List.length_take,List.length_drop]; done)
 refine an ?_ ?_
 (show List.length (List.take (List.length (ens (Sts.es s))) (ens (Sts.es s))++List.drop (List.length (ens (Sts.es s))) (List.replicate (List.length (ens (Sts.es s))) (Data.agg [Data.int IntKind.i64 (0:Int),Data.int IntKind.i64 (0:Int),Data.int IntKind.i64 (0:Int)])))=List.length (ens (Sts.es s)); simp only [List.length_replicate,List.length_set,List.length_append,List.length_take,List.length_drop]; omega)
 refine sd ?_
 rotate_left
 exact congrArg (fun X=>([.cbox [.slice 1 (strs m.ns),.slice 3 (lks m.ls)],.cbox [.int .i64 s.co,.int .i64 s.nu,.slice 3 (ens s.es)],.box [.d (.int .i64 0),.d (.int .i64 0),.nils 3],.row 29 1 [.int .i64 a,.int .i64 b,.int .i64 c] false,.none,.cbox [.int .i64 s.co,.int .i64 s.nu,.slice 3 (ens s.es)],.box [.d (.int .i64 s.co),.d (.int .i64 s.nu),.sl 7 (ens s.es).length],.row 105 3 X false,.none,.none,.none]:List AObj)) e
theorem c117i_52 (m : Ms) (s : Sts) (n : Int) (x e : En) (is : Bool) (E : List En) (L : Nat) (a b c : Int) (h0 : 0 ≤ n) (he : E[n.toNat]? = some e) (hL : L = (ens E).length) : CallIn Tryz.prog 117 [.agg [.d (.int .i64 s.co), .d (.int .i64 s.nu), .sl 7 L], .d (.int .i64 n), .d (.agg [.int .i64 x.nu, .int .i64 x.di, .int .i64 x.ne, .bool is])]
  [.cbox [.slice 1 (strs m.ns),.slice 3 (lks m.ls)],.cbox [.int .i64 s.co,.int .i64 s.nu,.slice 3 (ens s.es)],.box [.d (.int .i64 0),.d (.int .i64 0),.nils 3],.row 29 1 [.int .i64 a,.int .i64 b,.int .i64 c] false,.box [.d (.int .i64 s.co),.d (.int .i64 s.nu),.sl 7 (ens s.es).length],.cbox [.int .i64 s.co,.int .i64 s.nu,.slice 3 (ens s.es)],.box [.d (.int .i64 s.co),.d (.int .i64 s.nu),.sl 7 (ens s.es).length],.row 105 3 (ens E) false,.none,.none,.none] (.tup []) (setAll [.cbox [.slice 1 (strs m.ns),.slice 3 (lks m.ls)],.cbox [.int .i64 s.co,.int .i64 s.nu,.slice 3 (ens s.es)],.box [.d (.int .i64 0),.d (.int .i64 0),.nils 3],.row 29 1 [.int .i64 a,.int .i64 b,.int .i64 c] false,.box [.d (.int .i64 s.co),.d (.int .i64 s.nu),.sl 7 (ens s.es).length],.cbox [.int .i64 s.co,.int .i64 s.nu,.slice 3 (ens s.es)],.box [.d (.int .i64 s.co),.d (.int .i64 s.nu),.sl 7 (ens s.es).length],.row 105 3 (ens E) false,.none,.none,.none] [(8,.box [.d (.int .i64 s.co),.d (.int .i64 s.nu),.sl 7 (ens E).length]),(9,.cbox [.int .i64 x.nu,.int .i64 x.di,.int .i64 x.ne,.bool is]),(7,.row 105 3 (ens (hrs s.co n x is E)) false)]):=by
 subst hL
 have hel:=ens_len E
 have hk:n.toNat < E.length:=(List.getElem?_eq_some_iff.1 he).1
 have hed:=ens_atI he
 have hno:(bif !(n==s.co)&&(is&&x.betB e) then E.set n.toNat x else E)=E→hrs s.co n x is E=E:=fun h=>by unfold hrs; rw [he]; exact h
 refine callIn_of_vc 8 (x:=ir117) (by kernel_rfl) rfl rfl rfl ?_
 cases is
 ·have e0:hrs s.co n x false E=E:=hno (by cases (n==s.co) <;> rfl)
  rw [e0]
  refine sd ?_
  refine b_ne (fun t1=>?_) (fun t1=>?_)
  refine sd ?_
  refine sd ?_
  exact rfl
  refine sd ?_
  refine sd ?_
  refine sd ?_
  exact rfl
 ·by_cases hb:x.betB e=true
  ·by_cases hn:n=s.co
   ·have e0:hrs s.co n x true E=E:=hno (by rw [show (n==s.co)=true by rw [beq_iff_eq]; exact hn]; rfl)
    rw [e0]
    refine sd ?_
    refine b_ne (fun t1=>?_) (fun t1=>?_)
    (exfalso; omega)
    refine sd ?_
    refine sd ?_
    refine sd ?_
    exact rfl
   ·have e0:hrs s.co n x true E=E.set n.toNat x:=by unfold hrs; rw [he]; show (bif !(n==s.co)&&(true&&x.betB e) then _ else _)=_; rw [hb,show (n==s.co)=false by rw [beq_eq_false_iff_ne]; exact hn]; rfl
    rw [e0]
    refine sd ?_
    refine b_ne (fun t1=>?_) (fun t1=>?_)
    refine an ?_ ?_
    refine an ?_ ?_
    exact rfl
    refine an ?_ ?_
    exact rfl
    refine an ?_ ?_
    assumption
    (show n < (↑(List.length (ens E)):Int); omega)
    refine sd ?_
    refine ca hed ?_
    refine ca (c150 x e) ?_
    refine b_t hb ?_
    refine an ?_ ?_
    refine an ?_ ?_
    exact rfl
    refine an ?_ ?_
    exact rfl
    refine an ?_ ?_
    assumption
    (show n < (↑(List.length (ens E)):Int); omega)
    refine Exists.intro _ (Exists.intro (Vc.Data.agg [Data.int IntKind.i64 (En.nu x),Data.int IntKind.i64 (En.di x),Data.int IntKind.i64 (En.ne x)]) (And.intro (And.intro ?_ (And.intro hed (And.intro rfl (And.intro ?_ (And.intro rfl rfl))))) ?_))
    exact rfl
    (show (0:Nat)+(3:Nat)≤(1:Nat)+(1:Nat)+(1:Nat); omega)
    refine sd ?_
    rotate_left
    (exfalso; omega)
    rw [show ens (E.set n.toNat x)=(ens E).set n.toNat (.agg [.int .i64 x.nu,.int .i64 x.di,.int .i64 x.ne]) from ens_set E n.toNat x]; rfl
  ·have hb:x.betB e=false:=by cases h:x.betB e; rfl; exact absurd h hb
   have e0:hrs s.co n x true E=E:=hno (by rw [hb]; cases (n==s.co) <;> rfl)
   rw [e0]
   refine sd ?_
   refine b_ne (fun t1=>?_) (fun t1=>?_)
   refine an ?_ ?_
   refine an ?_ ?_
   exact rfl
   refine an ?_ ?_
   exact rfl
   refine an ?_ ?_
   assumption
   (show n < (↑(List.length (ens E)):Int); omega)
   refine sd ?_
   refine ca hed ?_
   refine ca (c150 x e) ?_
   refine b_f hb ?_
   refine sd ?_
   exact rfl
   refine sd ?_
   refine sd ?_
   refine sd ?_
   exact rfl
def heardE (m:Ms) (s:Sts) (w fr:Int):Int:=bif firstOf [m.chkS s,m.nodeE w,m.nodeE fr] != 0 then firstOf [m.chkS s,m.nodeE w,m.nodeE fr] else heaE m w fr
theorem c52 (m:Ms) (s:Sts) (w fr:Int) (hm:m.ns.length≤1048576) (hl2:m.ls.length≤1048576) (hn:s.es.length≤1048576):CallDet Tryz.prog 52 [.d m.d,.d s.d,.d (.int .i64 w),.d (.int .i64 fr)] [(bif heardE m s w fr != 0 then Sts.zero else s.heard m w fr).d,.int .i64 (heardE m s w fr)]:=by
 have hl:=ens_len s.es
 have bad:∀ v,heardE m s w fr=v→¬ v=0→resV [.agg [.int .i64 0,.int .i64 0,.slice 3 []],.int .i64 v]=resV [(bif heardE m s w fr != 0 then Sts.zero else s.heard m w fr).d,.int .i64 (heardE m s w fr)]:=fun v e h=>by
  rw [e,show (v != 0)=true by rw [bne_iff_ne]; exact h]; rfl
 have fin:heardE m s w fr=0→∀ X,X=ens (s.heard m w fr).es→resV [.agg [.int .i64 s.co,.int .i64 s.nu,.slice 3 X],.int .i64 0]=resV [(bif heardE m s w fr != 0 then Sts.zero else s.heard m w fr).d,.int .i64 (heardE m s w fr)]:=fun e X hX=>by
  rw [e,hX]; rfl
 refine call_of_vc (x:=ir52) (by kernel_rfl) rfl ?_
 by_cases hz:firstOf [m.chkS s,m.nodeE w,m.nodeE fr]=0
 ·have g:=good_of (firstOf_zero hz (m.chkS s) (by simp))
  have hf:=chk_fine g.chk
  have hle:=g.len
  have h128:=hf.l128
  have hw:=node_in (firstOf_zero hz (m.nodeE w) (by simp))
  have hr2:=node_in (firstOf_zero hz (m.nodeE fr) (by simp))
  have hrk:=g.rng fr hr2.1 hr2.2
  have hhl:(ens (hrs s.co w (ofX m s fr w) (ofB m s fr w) s.es)).length=(ens s.es).length:=by
   rw [hrs_heard m s w fr hw.1 (by omega),ens_len,hl]; unfold Sts.heard; rw [List.length_set]
  refine ca (c37 m s hm hl2 hn) ?_
  refine ca (c87 m _) ?_
  refine ca (c87 m _) ?_
  refine sd ?_
  refine sd ?_
  refine ca (c86 [Ms.chkS m s,Ms.nodeE m w,Ms.nodeE m fr] (by simp)) ?_
  refine sd ?_
  refine b_ne (fun t1=>?_) (fun t1=>?_)
  (exfalso; omega)
  refine ca (c91 m _ _ hl2) ?_
  refine sd ?_
  refine b_eq (fun t2=>?_) (fun t2=>?_)
  rotate_left
  refine Exists.intro _ (Exists.intro _ (And.intro (c99i_52 m s _ _ _ hn) ?_))
  refine ca (c118 m s fr w hf hr2.1 (by omega) hrk.2.1) ?_
  refine Exists.intro _ (Exists.intro _ (And.intro (c117i_52 m s w (ofX m s fr w) (s.at w) (ofB m s fr w) s.es _ _ _ _ hw.1 (Sts.at_getI (by omega)) rfl) ?_))
  refine an ?_ ?_
  assumption
  rotate_left
  ·refine bad _ ?_ (by decide)
   unfold heardE heaE; rw [if_0 hz,t2]; rfl
  ·refine fin ?_ _ (congrArg ens (hrs_heard m s w fr hw.1 (by omega)))
   unfold heardE heaE; rw [if_0 hz,show (betw m.ls w fr==0)=false by rw [beq_eq_false_iff_ne]; exact t2]; rfl
 ·refine ca (c37 m s hm hl2 hn) ?_
  refine ca (c87 m _) ?_
  refine ca (c87 m _) ?_
  refine sd ?_
  refine sd ?_
  refine ca (c86 [Ms.chkS m s,Ms.nodeE m w,Ms.nodeE m fr] (by simp)) ?_
  refine sd ?_
  refine b_ne (fun t1=>?_) (fun t1=>?_)
  rotate_left
  (exfalso; omega)
  exact bad _ (by unfold heardE; exact if_1 hz) hz
theorem heard_len (m:Ms) (s:Sts) (a b:Int):(s.heard m a b).es.length=s.es.length:=by unfold Sts.heard; exact List.length_set
end Vc
set_option maxRecDepth 10000
set_option maxHeartbeats 4000000
namespace Vc
open Go Go.Proofs
def ir151:AFun:=⟨22,3,[.tmp 4],
 (.seq
 (.reg [] [⟨some 4,.mov (.cst (.nils 1)),none⟩])
 (.seq
 (.reg [] [⟨some 5,.mov (.cst (.nils 1)),none⟩])
 (.seq
 (.seq
 (.reg [] [⟨some 8,.mov (.tmp 0),none⟩,
 ⟨some 9,.len (.tmp 8),none⟩,
 ⟨some 10,.mov (.cst (.d (.int .i64 0))),none⟩])
 (.post [5] [0,1,2]
 (.block 0
 (.asrow 2 3 1 5
 (.keep [1,5,8,9,10] []
 (.loop
 (.post [1,5,8,9,10] [0,1,2]
 (.seq
 (.reg [] [⟨some 11,.cmp .lss (.tmp 10) (.tmp 9),none⟩])
 (.seq
 (.cond (.tmp 11)
 .skip
 (.exit 0))
 (.seq
 (.block 1
 (.seq
 (.reg [0] [⟨some 12,.ixa 3 (.tmp 8) (.tmp 10),none⟩,
 ⟨some 13,.ld true 3 (.tmp 12),none⟩,
 ⟨some 7,.alloc 0 [(.d (.int .i64 0)),(.d (.int .i64 0)),(.d (.int .i64 0))],none⟩,
 ⟨none,.st 3 (.tmp 7) (.tmp 13),none⟩])
 (.reg [1,2] [⟨some 14,.mov (.tmp 5),none⟩,
 ⟨some 15,.mov (.tmp 1),none⟩,
 ⟨some 16,.ld true 3 (.tmp 7),none⟩,
 ⟨some 17,.callv (.tmp 15) [(.tmp 16)],none⟩,
 ⟨some 18,.bsl 1 3 1 1 [(.int .i64 0)] [(0,(.tmp 17))],none⟩,
 ⟨some 19,.app 2 3 1 8 (.tmp 14) (.tmp 18),none⟩,
 ⟨some 5,.mov (.tmp 19),none⟩])))
 (.reg [] [⟨some 20,.arith .add .i64 (.tmp 10) (.cst (.d (.int .i64 1))),none⟩,
 ⟨some 10,.mov (.tmp 20),none⟩])))))))))))
 (.seq
 (.reg [] [⟨some 21,.mov (.tmp 5),none⟩,
 ⟨some 4,.mov (.tmp 21),none⟩])
 .ret))))⟩
def ir152:AFun:=⟨5,1,[.tmp 2],
 (.seq
 (.reg [0] [⟨some 1,.cbx 0 3 (.tmp 0),none⟩,
 ⟨some 2,.mov (.cst (.d (.int .i64 0))),none⟩])
 (.seq
 (.reg [] [⟨some 3,.fad 2 (.tmp 1),none⟩,
 ⟨some 4,.ld false 1 (.tmp 3),none⟩,
 ⟨some 2,.mov (.tmp 4),none⟩])
 .ret))⟩
def ir153:AFun:=⟨5,4,[.tmp 2],
 (.seq
 (.reg [] [⟨some 2,.mov (.cst (.nils 1)),none⟩])
 (.seq
 (.reg [] [⟨some 3,.mov (.tmp 0),none⟩,
 ⟨some 4,.calli 164 [(.cst (.nils 1)),(.tmp 3)],none⟩,
 ⟨some 2,.mov (.tmp 4),none⟩])
 .ret))⟩
def ir154:AFun:=⟨6,2,[.tmp 4],
 (.seq
 (.reg [0,1] [⟨some 2,.cbx 0 1 (.tmp 0),none⟩,
 ⟨some 3,.cbx 1 1 (.tmp 1),none⟩,
 ⟨some 4,.mov (.cst .undef),none⟩])
 (.seq
 (.reg [] [⟨some 5,.mkf (.func 165) [] [(.tmp 3),(.tmp 2)],none⟩,
 ⟨some 4,.mov (.tmp 5),none⟩])
 .ret))⟩
def ir164:AFun:=⟨13,4,[.tmp 4],
 (.seq
 (.reg [0] [⟨some 2,.box 0 1 (.tmp 0),none⟩,
 ⟨some 4,.mov (.cst (.nils 1)),none⟩])
 (.seq
 (.seq
 (.reg [] [⟨some 6,.mov (.tmp 1),none⟩])
 (.block 0
 (.keep [2,6] [0]
 (.rfor 1 (.tmp 6) [7]
 (.reg [] [⟨some 5,.mov (.tmp 7),none⟩])
 (.post [] [2,3]
 (.block 1
 (.reg [2,3] [⟨some 8,.ld false 1 (.tmp 2),none⟩,
 ⟨some 9,.mov (.tmp 5),none⟩,
 ⟨some 10,.bsl 2 3 1 1 [(.int .i64 0)] [(0,(.tmp 9))],none⟩,
 ⟨some 11,.app 3 3 1 8 (.tmp 8) (.tmp 10),none⟩,
 ⟨none,.st 1 (.tmp 2) (.tmp 11),none⟩])))))))
 (.seq
 (.reg [] [⟨some 12,.ld false 1 (.tmp 2),none⟩,
 ⟨some 4,.mov (.tmp 12),none⟩])
 .ret)))⟩
def ir165:AFun:=⟨32,0,[],
 (.seq
 (.reg [] [⟨some 5,.ld false 1 (.tmp 1),none⟩,
 ⟨some 4,.mov (.tmp 5),none⟩])
 (.seq
 (.reg [] [⟨some 6,.ld false 1 (.tmp 2),none⟩,
 ⟨some 7,.len (.tmp 6),none⟩,
 ⟨some 8,.mov (.cst (.d (.int .i64 0))),none⟩])
 (.post [] []
 (.block 0
 (.keep [0,2,4,7,8] []
 (.loop
 (.post [0,2,4,7,8] []
 (.seq
 (.reg [] [⟨some 9,.cmp .lss (.tmp 8) (.tmp 7),none⟩])
 (.seq
 (.cond (.tmp 9)
 .skip
 (.exit 0))
 (.seq
 (.block 1
 (.seq
 (.seq
 (.reg [] [⟨some 10,.mov (.tmp 0),none⟩,
 ⟨some 11,.mov (.tmp 4),none⟩,
 ⟨some 12,.callv (.tmp 10) [(.tmp 11)],none⟩,
 ⟨some 13,.not (.tmp 12),none⟩])
 (.cond (.tmp 13)
 .ret
 .skip))
 (.seq
 (.seq
 (.reg [] [⟨some 14,.ld false 1 (.tmp 2),none⟩,
 ⟨some 15,.mov (.tmp 4),none⟩,
 ⟨some 16,.ixa 1 (.tmp 14) (.tmp 15),none⟩,
 ⟨some 17,.ld false 1 (.tmp 16),none⟩,
 ⟨some 18,.cmp .lss (.tmp 17) (.cst (.d (.int .i64 0))),none⟩,
 ⟨some 19,.mov (.tmp 18),none⟩,
 ⟨some 20,.ld false 1 (.tmp 2),some (19,false)⟩,
 ⟨some 21,.mov (.tmp 4),some (19,false)⟩,
 ⟨some 22,.ixa 1 (.tmp 20) (.tmp 21),some (19,false)⟩,
 ⟨some 23,.ld false 1 (.tmp 22),some (19,false)⟩,
 ⟨some 24,.mov (.tmp 4),some (19,false)⟩,
 ⟨some 25,.cmp .eql (.tmp 23) (.tmp 24),some (19,false)⟩,
 ⟨some 26,.pick (.tmp 19) (.cst (.d (.bool true))) (.tmp 25),none⟩])
 (.cond (.tmp 26)
 .ret
 .skip))
 (.reg [] [⟨some 27,.ld false 1 (.tmp 2),none⟩,
 ⟨some 28,.mov (.tmp 4),none⟩,
 ⟨some 29,.ixa 1 (.tmp 27) (.tmp 28),none⟩,
 ⟨some 30,.ld false 1 (.tmp 29),none⟩,
 ⟨some 4,.mov (.tmp 30),none⟩]))))
 (.reg [] [⟨some 31,.arith .add .i64 (.tmp 8) (.cst (.d (.int .i64 1))),none⟩,
 ⟨some 8,.mov (.tmp 31),none⟩])))))))))))⟩
end Vc
set_option maxRecDepth 10000
set_option maxHeartbeats 4000000
namespace Vc
open Go Go.Proofs
def rkS (n:Nat) (s:Sts) (a:Int):Nat:=cnt n (fun u=>(s.at u).betB (s.at a))
theorem betB_self (x:En):x.betB x=false:=by
 cases h:x.betB x
 ·rfl
 ·have:=betB_iff.1 h
  unfold En.bet at this; omega
theorem Good.betw_self {m:Ms} {s:Sts} (g:Good m s) (a:Int):betw m.ls a a=0:=by
 rcases Classical.em (0 < betw m.ls a a) with h | h
 ·obtain ⟨l,hl,_,h1,h2⟩:=betw_mem h
  have:=((chk_fine g.chk).link hl).1.2.2
  omega
 ·have:=(chk_fine g.chk).rng a a; omega
theorem Good.nxt {m:Ms} {s:Sts} (g:Good m s) {a:Int} (h0:0≤a) (h1:a < (m.ns.length:Int)) (hc:a≠s.co) (hn:(s.at a).ne≠-1):0≤(s.at a).ne∧(s.at a).ne < (m.ns.length:Int)∧(s.at a).ne≠a∧0 < betw m.ls a (s.at a).ne∧(s.at (s.at a).ne).bet (s.at a):=by
 have r:=g.rng a h0 h1
 have hl:=g.lnk a h0 h1 hc hn
 have hr:=(chk_fine g.chk).rng a (s.at a).ne
 refine ⟨by omega,r.2.2.2,fun e=>?_,by omega,?_⟩
 ·rw [e] at hl; exact hl (g.betw_self a)
 ·have:=g.lead a h0 h1 hc hn
  unfold En.bet; omega
theorem Good.rk_lt {m:Ms} {s:Sts} (g:Good m s) {a:Int} (h0:0≤a) (h1:a < (m.ns.length:Int)) (hc:a≠s.co) (hn:(s.at a).ne≠-1):rkS m.ns.length s (s.at a).ne < rkS m.ns.length s a:=by
 have k:=g.nxt h0 h1 hc hn
 refine cnt_lt (j:=(s.at a).ne.toNat) (fun i _ hi=>?_) (by omega) ?_ ?_
 ·have h:=betB_iff.1 hi
  refine betB_iff.2 ?_
  have h2:=k.2.2.2.2
  unfold En.bet at h h2 ⊢
  omega
 ·show (s.at (((s.at a).ne.toNat:Nat):Int)).betB _=false
  rw [show (((s.at a).ne.toNat:Nat):Int)=(s.at a).ne by omega]; exact betB_self _
 ·show (s.at (((s.at a).ne.toNat:Nat):Int)).betB _=true
  rw [show (((s.at a).ne.toNat:Nat):Int)=(s.at a).ne by omega]; exact betB_iff.2 k.2.2.2.2
theorem rkS_lt {n:Nat} (s:Sts) {a:Int} (h0:0≤a) (h1:a < (n:Int)):rkS n s a < n:=by
 have h:=cnt_lt (n:=n) (p:=fun u=>(s.at u).betB (s.at a)) (q:=fun _=>true) (j:=a.toNat) (fun _ _ _=>rfl) (by omega) (by show (s.at ((a.toNat:Nat):Int)).betB _=false; rw [show ((a.toNat:Nat):Int)=a by omega]; exact betB_self _) rfl
 rw [cnt_all] at h; exact h
end Vc
set_option maxRecDepth 10000
set_option maxHeartbeats 4000000
namespace Vc
open Go Go.Proofs
def ir62:AFun:=⟨56,9,[.cell 6 3 true,.tmp 7],
 (.seq
 (.reg [0,1,2] [⟨some 3,.cbx 0 2 (.tmp 0),none⟩,
 ⟨some 4,.cbx 1 3 (.tmp 1),none⟩,
 ⟨some 6,.alloc 2 [(.d (.int .i64 0)),(.d (.int .i64 0)),(.nils 3)],none⟩,
 ⟨some 7,.mov (.cst (.d (.int .i64 0))),none⟩])
 (.seq
 (.seq
 (.regd [3] [⟨some 10,.ld true 2 (.tmp 3),none⟩,
 ⟨some 11,.ld true 3 (.tmp 4),none⟩,
 ⟨some 12,.call 37 [(.tmp 10),(.tmp 11)],none⟩,
 ⟨some 13,.ld true 2 (.tmp 3),none⟩,
 ⟨some 14,.mov (.tmp 2),none⟩,
 ⟨some 15,.call 87 [(.tmp 13),(.tmp 14)],none⟩,
 ⟨some 16,.mov (.tmp 2),none⟩,
 ⟨some 17,.fad 0 (.tmp 4),none⟩,
 ⟨some 18,.ld false 1 (.tmp 17),none⟩,
 ⟨some 19,.cmp .eql (.tmp 16) (.tmp 18),none⟩,
 ⟨some 20,.call 89 [(.tmp 19),(.cst (.d (.int .i64 9)))],none⟩,
 ⟨some 21,.fad 1 (.tmp 4),none⟩,
 ⟨some 22,.ld false 1 (.tmp 21),none⟩,
 ⟨some 23,.cmp .eql (.tmp 22) (.cst (.d (.int .i64 1000000))),none⟩,
 ⟨some 24,.call 89 [(.tmp 23),(.cst (.d (.int .i64 20)))],none⟩,
 ⟨some 25,.bsl 3 29 1 4 [(.int .i64 0),(.int .i64 0),(.int .i64 0),(.int .i64 0)] [(0,(.tmp 12)),(1,(.tmp 15)),(2,(.tmp 20)),(3,(.tmp 24))],none⟩,
 ⟨some 26,.call 86 [(.tmp 25)],none⟩,
 ⟨some 8,.mov (.tmp 26),none⟩] [(0,1),(0,3),(1,3),(2,3),(0,4),(1,4),(2,4),(3,4),(0,6),(1,6),(2,6),(3,6),(4,6),(5,6),(0,7),(1,7),(2,7),(3,7),(4,7),(5,7),(6,7),(0,8),(1,8),(2,8),(3,8),(4,8),(5,8),(6,8),(0,9),(1,9),(2,9),(3,9),(4,9),(5,9),(0,11),(1,11),(2,11),(3,11),(4,11),(5,11),(6,11),(7,11),(8,11),(9,11),(10,11),(0,12),(1,12),(2,12),(3,12),(4,12),(5,12),(6,12),(7,12),(8,12),(9,12),(10,12),(0,13),(1,13),(2,13),(3,13),(4,13),(5,13),(6,13),(7,13),(8,13),(9,13),(10,13)])
 (.seq
 (.reg [] [⟨some 27,.mov (.tmp 8),none⟩,
 ⟨some 28,.cmp .neq (.tmp 27) (.cst (.d (.int .i64 0))),none⟩])
 (.cond (.tmp 28)
 (.seq
 (.reg [] [⟨some 29,.build [(.d (.int .i64 0)),(.d (.int .i64 0)),(.nils 3)] [],none⟩,
 ⟨some 30,.mov (.tmp 8),none⟩,
 ⟨none,.st 3 (.tmp 6) (.tmp 29),none⟩,
 ⟨some 7,.mov (.tmp 30),none⟩])
 .ret)
 .skip)))
 (.seq
 (.reg [4] [⟨some 31,.ld true 3 (.tmp 4),none⟩,
 ⟨some 32,.calli 99 [(.tmp 31)],none⟩,
 ⟨some 9,.alloc 4 [(.d (.int .i64 0)),(.d (.int .i64 0)),(.nils 3)],none⟩,
 ⟨none,.st 3 (.tmp 9) (.tmp 32),none⟩])
 (.seq
 (.regd [] [⟨some 33,.mov (.tmp 2),none⟩,
 ⟨some 34,.fad 1 (.tmp 4),none⟩,
 ⟨some 35,.ld false 1 (.tmp 34),none⟩,
 ⟨some 36,.arith .add .i64 (.tmp 35) (.cst (.d (.int .i64 1))),none⟩,
 ⟨some 37,.fad 0 (.tmp 9),none⟩,
 ⟨none,.st 1 (.tmp 37) (.tmp 33),none⟩,
 ⟨some 38,.fad 1 (.tmp 9),none⟩,
 ⟨none,.st 1 (.tmp 38) (.tmp 36),none⟩] [(0,1),(0,2),(0,3),(1,4),(2,4),(3,4),(1,5),(2,5),(3,5)])
 (.seq
 (.reg [] [⟨some 39,.fad 2 (.tmp 9),none⟩,
 ⟨some 40,.ld false 1 (.tmp 39),none⟩,
 ⟨some 41,.fad 0 (.tmp 4),none⟩,
 ⟨some 42,.ld false 1 (.tmp 41),none⟩,
 ⟨some 43,.fad 1 (.tmp 4),none⟩,
 ⟨some 44,.ld false 1 (.tmp 43),none⟩,
 ⟨some 45,.build [(.d (.int .i64 0)),(.d (.int .i64 0)),(.d (.int .i64 0))] [(0,1,(.tmp 44)),(1,1,(.cst (.d (.int .i64 0)))),(2,1,(.cst (.d (.int .i64 (-1)))))],none⟩,
 ⟨some 46,.ixa 3 (.tmp 40) (.tmp 42),none⟩,
 ⟨none,.st 3 (.tmp 46) (.tmp 45),none⟩])
 (.seq
 (.reg [] [⟨some 47,.fad 2 (.tmp 9),none⟩,
 ⟨some 48,.ld false 1 (.tmp 47),none⟩,
 ⟨some 49,.mov (.tmp 2),none⟩,
 ⟨some 50,.fad 1 (.tmp 9),none⟩,
 ⟨some 51,.ld false 1 (.tmp 50),none⟩,
 ⟨some 52,.mov (.tmp 2),none⟩,
 ⟨some 53,.build [(.d (.int .i64 0)),(.d (.int .i64 0)),(.d (.int .i64 0))] [(0,1,(.tmp 51)),(1,1,(.cst (.d (.int .i64 0)))),(2,1,(.tmp 52))],none⟩,
 ⟨some 54,.ixa 3 (.tmp 48) (.tmp 49),none⟩,
 ⟨none,.st 3 (.tmp 54) (.tmp 53),none⟩])
 (.seq
 (.reg [] [⟨some 55,.ld true 3 (.tmp 9),none⟩,
 ⟨none,.st 3 (.tmp 6) (.tmp 55),none⟩,
 ⟨some 7,.mov (.cst (.d (.int .i64 0))),none⟩])
 .ret)))))))⟩
def elecE (m:Ms) (s:Sts) (i:Int):Int:=firstOf [m.chkS s,m.nodeE i,bif i==s.co then 9 else 0,bif s.nu==1000000 then 20 else 0]
def Sts.elec (s:Sts) (i:Int):Sts:=⟨i,s.nu+1,(s.es.set s.co.toNat ⟨s.nu,0,-1⟩).set i.toNat ⟨s.nu+1,0,i⟩⟩
theorem c99i_62 (m : Ms) (s : Sts) (a b c d : Int) (hn : s.es.length ≤ 1048576) : CallIn Tryz.prog 99 [.d s.d] [.cbox [.slice 1 (strs m.ns), .slice 3 (lks m.ls)], .cbox [.int .i64 s.co, .int .i64 s.nu, .slice 3 (ens s.es)], .box [.d (.int .i64 0), .d (.int .i64 0), .nils 3], .row 29 1 [.int .i64 a, .int .i64 b, .int .i64 c, .int .i64 d] false, .none, .none, .none, .none, .none] (.agg [.d (.int .i64 s.co), .d (.int .i64 s.nu), .sl 7 (ens s.es).length])
  (setAll [.cbox [.slice 1 (strs m.ns),.slice 3 (lks m.ls)],.cbox [.int .i64 s.co,.int .i64 s.nu,.slice 3 (ens s.es)],.box [.d (.int .i64 0),.d (.int .i64 0),.nils 3],.row 29 1 [.int .i64 a,.int .i64 b,.int .i64 c,.int .i64 d] false,.none,.none,.none,.none,.none] [(5,.cbox [.int .i64 s.co,.int .i64 s.nu,.slice 3 (ens s.es)]),(6,.box [.d (.int .i64 s.co),.d (.int .i64 s.nu),.sl 7 (ens s.es).length]),(7,.row 105 3 (ens s.es) false)]):=by
 have hl:=ens_len s.es
 have e:List.take (ens s.es).length (ens s.es)++List.drop (ens s.es).length (List.replicate (ens s.es).length (.agg [.int .i64 0,.int .i64 0,.int .i64 0]))=ens s.es:=by
  rw [List.take_length,List.drop_eq_nil_of_le (by rw [List.length_replicate]; exact Nat.le_refl _),List.append_nil]
 refine callIn_of_vc 5 (x:=ir99) (by kernel_rfl) rfl rfl rfl ?_
 refine an ?_ ?_
 refine an ?_ ?_
 (show (0:Int)≤(↑(List.length (ens (Sts.es s))):Int); omega)
 refine an ?_ ?_
 (show (↑(List.length (ens (Sts.es s))):Int) * (↑(24:Nat):Int)≤(2:Int) ^ (47:Nat); omega)
 (show (↑(List.length (ens (Sts.es s))):Int)≤(2:Int) ^ (47:Nat); omega)
 refine ca (And.intro rfl (And.intro rfl (And.intro ?_ rfl))) ?_
 focus (show List.length (List.replicate (List.length (ens (Sts.es s))) (Data.agg [Data.int IntKind.i64 (0:Int),Data.int IntKind.i64 (0:Int),Data.int IntKind.i64 (0:Int)]))=List.length (ens (Sts.es s)); simp only [List.length_replicate,List.length_set,List.length_append,List.length_take,List.length_drop]; done)
 refine an ?_ ?_
 (show List.length (List.take (List.length (ens (Sts.es s))) (ens (Sts.es s))++List.drop (List.length (ens (Sts.es s))) (List.replicate (List.length (ens (Sts.es s))) (Data.agg [Data.int IntKind.i64 (0:Int),Data.int IntKind.i64 (0:Int),Data.int IntKind.i64 (0:Int)])))=List.length (ens (Sts.es s)); simp only [List.length_replicate,List.length_set,List.length_append,List.length_take,List.length_drop]; omega)
 refine sd ?_
 rotate_left
 exact congrArg (fun X=>([.cbox [.slice 1 (strs m.ns),.slice 3 (lks m.ls)],.cbox [.int .i64 s.co,.int .i64 s.nu,.slice 3 (ens s.es)],.box [.d (.int .i64 0),.d (.int .i64 0),.nils 3],.row 29 1 [.int .i64 a,.int .i64 b,.int .i64 c,.int .i64 d] false,.none,.cbox [.int .i64 s.co,.int .i64 s.nu,.slice 3 (ens s.es)],.box [.d (.int .i64 s.co),.d (.int .i64 s.nu),.sl 7 (ens s.es).length],.row 105 3 X false,.none]:List AObj)) e
theorem c62 (m:Ms) (s:Sts) (i:Int) (hm:m.ns.length≤1048576) (hl2:m.ls.length≤1048576) (hn:s.es.length≤1048576):CallDet Tryz.prog 62 [.d m.d,.d s.d,.d (.int .i64 i)] [(bif elecE m s i != 0 then Sts.zero else s.elec i).d,.int .i64 (elecE m s i)]:=by
 have hl:=ens_len s.es
 have bad:¬ elecE m s i=0→resV [.agg [.int .i64 0,.int .i64 0,.slice 3 []],.int .i64 (elecE m s i)]=resV [(bif elecE m s i != 0 then Sts.zero else s.elec i).d,.int .i64 (elecE m s i)]:=fun h=>by
  rw [show (elecE m s i != 0)=true by rw [bne_iff_ne]; exact h]; rfl
 have fin:elecE m s i=0→∀ X,X=ens (s.elec i).es→resV [.agg [.int .i64 i,.int .i64 (s.nu+1),.slice 3 X],.int .i64 0]=resV [(bif elecE m s i != 0 then Sts.zero else s.elec i).d,.int .i64 (elecE m s i)]:=fun h X hX=>by rw [h,hX]; rfl
 refine call_of_vc (x:=ir62) (by kernel_rfl) rfl ?_
 by_cases hz:firstOf [m.chkS s,m.nodeE i,bif i==s.co then 9 else 0,bif s.nu==1000000 then 20 else 0]=0
 ·have g:=good_of (firstOf_zero hz (m.chkS s) (by simp))
  have hle:=g.len
  have hco:=g.co
  have hnu:=g.nu
  have hi:=node_in (firstOf_zero hz (m.nodeE i) (by simp))
  have hx:=ens_atI (Sts.at_getI (s:=s) (i:=s.co) (by omega))
  have hE1:((ens s.es).set s.co.toNat (.agg [.int .i64 s.nu,.int .i64 0,.int .i64 (-1)]))=ens (s.es.set s.co.toNat ⟨s.nu,0,-1⟩):=(ens_set s.es s.co.toNat ⟨s.nu,0,-1⟩).symm
  refine Exists.elim (get_lt (s.es.set s.co.toNat ⟨s.nu,0,-1⟩) (k:=i.toNat) (by rw [List.length_set]; omega)) fun y hy=>?_
  have hyd:=ens_atI hy
  rw [← hE1] at hyd
  have hE2:((ens s.es).set s.co.toNat (.agg [.int .i64 s.nu,.int .i64 0,.int .i64 (-1)])).set i.toNat (.agg [.int .i64 (s.nu+1),.int .i64 0,.int .i64 i])=ens (s.elec i).es:=by
   rw [hE1]; exact (ens_set _ i.toNat ⟨s.nu+1,0,i⟩).symm
  refine ca (c37 m s hm hl2 hn) ?_
  refine ca (c87 m _) ?_
  refine sd ?_
  refine ca (c89 _ _) ?_
  refine sd ?_
  refine ca (c89 _ _) ?_
  refine sd ?_
  refine sd ?_
  refine ca (c86 [Ms.chkS m s,Ms.nodeE m i,bif i==Sts.co s then (9:Int) else (0:Int),bif Sts.nu s==(1000000:Int) then (20:Int) else (0:Int)] (by simp)) ?_
  refine sd ?_
  refine b_ne (fun t1=>?_) (fun t1=>?_)
  (exfalso; omega)
  refine Exists.intro _ (Exists.intro _ (And.intro (c99i_62 m s _ _ _ _ hn) ?_))
  refine ar_add ?_ ?_
  refine an ?_ ?_
  (show (-9223372036854775808:Int)≤Sts.nu s+(1:Int); omega)
  (show Sts.nu s+(1:Int)≤(9223372036854775807:Int); omega)
  refine an ?_ ?_
  refine an ?_ ?_
  exact rfl
  refine an ?_ ?_
  exact rfl
  refine an ?_ ?_
  (show (0:Int)≤Sts.co s; omega)
  (show Sts.co s < (↑(List.length (ens (Sts.es s))):Int); omega)
  refine Exists.intro _ (Exists.intro (Vc.Data.agg [Data.int IntKind.i64 (Sts.nu s),Data.int IntKind.i64 (0:Int),Data.int IntKind.i64 (-1:Int)]) (And.intro (And.intro ?_ (And.intro hx (And.intro rfl (And.intro ?_ (And.intro rfl rfl))))) ?_))
  exact rfl
  (show (0:Nat)+(3:Nat)≤(1:Nat)+(1:Nat)+(1:Nat); omega)
  refine an ?_ ?_
  refine an ?_ ?_
  exact rfl
  refine an ?_ ?_
  focus (show List.length (List.set (ens (Sts.es s)) (Int.toNat (Sts.co s)) (Data.agg [Data.int IntKind.i64 (Sts.nu s),Data.int IntKind.i64 (0:Int),Data.int IntKind.i64 (-1:Int)]))=List.length (ens (Sts.es s)); simp only [List.length_replicate,List.length_set,List.length_append,List.length_take,List.length_drop]; done)
  refine an ?_ ?_
  (show (0:Int)≤i; omega)
  (show i < (↑(List.length (ens (Sts.es s))):Int); omega)
  refine Exists.intro _ (Exists.intro (Vc.Data.agg [Data.int IntKind.i64 (Sts.nu s+(1:Int)),Data.int IntKind.i64 (0:Int),Data.int IntKind.i64 i]) (And.intro (And.intro ?_ (And.intro hyd (And.intro rfl (And.intro ?_ (And.intro rfl rfl))))) ?_))
  focus (show List.length (List.set (ens (Sts.es s)) (Int.toNat (Sts.co s)) (Data.agg [Data.int IntKind.i64 (Sts.nu s),Data.int IntKind.i64 (0:Int),Data.int IntKind.i64 (-1:Int)]))=List.length (ens (Sts.es s)); simp only [List.length_replicate,List.length_set,List.length_append,List.length_take,List.length_drop]; done)
  (show (0:Nat)+(3:Nat)≤(1:Nat)+(1:Nat)+(1:Nat); omega)
  refine an ?_ ?_
  focus (show List.length (List.set (List.set (ens (Sts.es s)) (Int.toNat (Sts.co s)) (Data.agg [Data.int IntKind.i64 (Sts.nu s),Data.int IntKind.i64 (0:Int),Data.int IntKind.i64 (-1:Int)])) (Int.toNat i) (Data.agg [Data.int IntKind.i64 (Sts.nu s+(1:Int)),Data.int IntKind.i64 (0:Int),Data.int IntKind.i64 i]))=List.length (ens (Sts.es s)); simp only [List.length_replicate,List.length_set,List.length_append,List.length_take,List.length_drop]; done)
  rotate_left
  exact fin hz _ hE2
 ·refine ca (c37 m s hm hl2 hn) ?_
  refine ca (c87 m _) ?_
  refine sd ?_
  refine ca (c89 _ _) ?_
  refine sd ?_
  refine ca (c89 _ _) ?_
  refine sd ?_
  refine sd ?_
  refine ca (c86 [Ms.chkS m s,Ms.nodeE m i,bif i==Sts.co s then (9:Int) else (0:Int),bif Sts.nu s==(1000000:Int) then (20:Int) else (0:Int)] (by simp)) ?_
  refine sd ?_
  refine b_ne (fun t1=>?_) (fun t1=>?_)
  rotate_left
  (exfalso; omega)
  exact bad hz
def Ms.joined (m:Ms) (nm:List UInt8) (w c:Int):Ms:=⟨m.ns++[nm],m.ls++[⟨w,m.ns.length,c⟩]⟩
def Sts.joined (s:Sts):Sts:=⟨s.co,s.nu,s.es++[⟨0,0,-1⟩]⟩
end Vc
set_option maxRecDepth 10000
namespace Vc
open Go Go.Proofs
theorem scan_ok_of {α:Type} {f:List α→α→Int} {l:List α} (h:∀ (k:Nat) x,l[k]?=some x→f (l.take k) x=0):scanE f [] l=0 :=
 scan_all l [] (fun k x hx=>by rw [List.nil_append]; exact h k x hx)
theorem chk_of_fine {m:Ms} (h:m.fine):m.chk=0 :=
 chk_4 (by have:=h.n32; omega) (scan_ok_of h.names) (by have:=h.l128; omega) (scan_ok_of h.links)
theorem linkE_of {n:Int} {pre:List Lk} {l:Lk} (h1:outs n l=0) (h2:pre.any (fun o=>sameL o l)=false) (h3:1≤l.c∧l.c≤100):linkE n pre l=0:=by
 unfold linkE; rw [h1,h2]; exact within_in h3
theorem erase_take {α:Type} {l:List α} {j k:Nat} {x:α} (h:x∈(l.eraseIdx j).take k):x∈l.take (k+1):=by
 obtain ⟨q,hq,e⟩:=List.mem_iff_getElem.1 h
 rw [List.length_take] at hq
 rw [List.getElem_take] at e
 have hq1:q < k:=by omega
 rw [List.getElem_eraseIdx] at e
 split at e
 ·have hle:=List.length_eraseIdx_le l j
  exact List.mem_iff_getElem.2 ⟨q,by rw [List.length_take]; omega,by rw [List.getElem_take]; exact e⟩
 ·have hl : q + 1 < l.length := by
   have h2:(l.eraseIdx j).length=if j < l.length then l.length - 1 else l.length:=List.length_eraseIdx
   split at h2
   ·omega
   ·omega
  exact List.mem_iff_getElem.2 ⟨q+1,by rw [List.length_take]; omega,by rw [List.getElem_take]; exact e⟩
theorem brok_fine {m:Ms} (h:m.fine) (i:Int):(m.brok i).fine:=by
 have hle:(m.brok i).ls.length≤m.ls.length:=List.length_eraseIdx_le m.ls i.toNat
 refine ⟨h.n32,by have:=h.l128; omega,?_,h.names⟩
 intro k l hl
 have hl:(m.ls.eraseIdx i.toNat)[k]?=some l:=hl
 rw [List.getElem?_eraseIdx] at hl
 split at hl
 ·rename_i hk
  have h0:=h.links k l hl
  show linkE m.ns.length ((m.ls.eraseIdx i.toNat).take k) l=0
  have e:(m.ls.eraseIdx i.toNat).take k=m.ls.take k:=by
   apply List.ext_getElem?
   intro q
   by_cases hq:q < k
   ·rw [List.getElem?_take_of_lt hq,List.getElem?_take_of_lt hq,List.getElem?_eraseIdx,if_pos (by omega)]
   ·rw [List.getElem?_eq_none (by rw [List.length_take]; omega),List.getElem?_eq_none (by rw [List.length_take]; omega)]
  rw [e]; exact h0
 ·have h0:=linkE_zero (h.links (k+1) l hl)
  refine linkE_of h0.1 ?_ h0.2.2
  rw [List.any_eq_false]
  intro o ho
  have:=List.any_eq_false.1 h0.2.1 o (erase_take ho)
  exact this
theorem betw_erase:∀ {ls:List Lk} {j:Nat} {l:Lk} {u v:Int},ls[j]?=some l→hit l u v=false→betw (ls.eraseIdx j) u v=betw ls u v
 | x::r,0,l,u,v,h,hh=>by
  have:x=l:=by simpa using h
  subst this
  show betw r u v=betw (x::r) u v
  conv=>rhs; unfold betw
  rw [hh]; rfl
 | x::r,j+1,l,u,v,h,hh=>by
  have ih:=betw_erase (ls:=r) (j:=j) (u:=u) (v:=v) (by simpa using h) hh
  show betw (x::r.eraseIdx j) u v=betw (x::r) u v
  unfold betw
  rw [ih]
theorem set_at {s:Sts} {co nu j:Int} {x:En} {k:Int} (hj:0≤j) (hjl:j < (s.es.length:Int)) (hk:0≤k):(⟨co,nu,s.es.set j.toNat x⟩:Sts).at k=if k=j then x else s.at k:=by
 unfold Sts.at
 by_cases e:k=j
 ·subst e
  rw [if_pos rfl]
  show ((s.es.set k.toNat x)[k.toNat]?).getD _=x
  rw [List.getElem?_set_self (by omega)]; rfl
 ·rw [if_neg e]
  show ((s.es.set j.toNat x)[k.toNat]?).getD _=_
  rw [List.getElem?_set_ne (by omega)]
def Mono (m:Ms) (s t:Sts):Prop:=∀ k:Int,0≤k→k < (m.ns.length:Int)→(s.at k).nu < (t.at k).nu∨((t.at k).nu=(s.at k).nu∧(t.at k).di≤(s.at k).di)
theorem Mono.refl (m:Ms) (s:Sts):Mono m s s:=fun _ _ _=>.inr ⟨rfl,Int.le_refl _⟩
theorem Good.mono_round {m:Ms} {s:Sts} (g:Good m s) (lost:List (Int × Int)):Mono m s (s.round m lost):=fun k h0 h1=>by
 rcases round_step g lost h0 h1 with e | ⟨_,u,_,_,_,_,_,_,hb⟩
 ·rw [e]; exact .inr ⟨rfl,Int.le_refl _⟩
 ·unfold En.bet at hb; omega
theorem begun_at {m:Ms} {i k:Int} (hi:0≤i) (hil:i < (m.ns.length:Int)) (hk:0≤k) (hkl:k < (m.ns.length:Int)):(m.begun i).at k=if k=i then ⟨1,0,i⟩ else ⟨0,0,-1⟩:=by
 have h:=set_at (s:=⟨i,1,List.replicate m.ns.length ⟨0,0,-1⟩⟩) (co:=i) (nu:=1) (x:=⟨1,0,i⟩) hi (by show i < ((List.replicate m.ns.length _).length:Int); rw [List.length_replicate]; exact hil) hk
 have e:(⟨i,1,List.replicate m.ns.length ⟨0,0,-1⟩⟩:Sts).at k=⟨0,0,-1⟩:=by
  unfold Sts.at
  show ((List.replicate m.ns.length (⟨0,0,-1⟩:En))[k.toNat]?).getD _=_
  rw [List.getElem?_replicate,if_pos (by omega)]; rfl
 rw [e] at h
 exact h
theorem Good.begun {m:Ms} (hc:m.chk=0) {i:Int} (h0:0≤i) (h1:i < (m.ns.length:Int)):Good m (m.begun i):=by
 refine ⟨hc,⟨h0,h1⟩,⟨by show (1:Int)≤1; omega,by show (1:Int)≤1000000; omega⟩,by unfold Ms.begun; show (List.set _ _ _).length=_; rw [List.length_set,List.length_replicate],?_,?_,?_,?_,?_⟩
 ·intro k hk hkl
  rw [begun_at h0 h1 hk hkl]
  show (0≤_∧_≤(1:Int))∧_
  split <;> refine ⟨⟨?_,?_⟩,⟨?_,?_⟩,?_,?_⟩ <;> simp only <;> omega
 ·show (m.begun i).at i=⟨1,0,i⟩
  rw [begun_at h0 h1 h0 h1,if_pos rfl]
 ·intro k hk hkl hki hz
  have hki:k≠i:=hki
  rw [begun_at h0 h1 hk hkl,if_neg hki]
 ·intro k hk hkl hki hz
  have hki:k≠i:=hki
  rw [begun_at h0 h1 hk hkl,if_neg hki] at hz
  exact absurd rfl hz
 ·intro k hk hkl hki hz
  have hki:k≠i:=hki
  rw [begun_at h0 h1 hk hkl,if_neg hki] at hz
  exact absurd rfl hz
theorem beac_at {m:Ms} {s:Sts} (g:Good m s) {k:Int} (hk:0≤k):s.beac.at k=if k=s.co then ⟨s.nu+1,0,s.co⟩ else s.at k:=by
 have hco:=g.co
 have hle:=g.len
 have h:=set_at (s:=s) (co:=s.co) (nu:=s.nu+1) (x:=⟨s.nu+1,(s.at s.co).di,(s.at s.co).ne⟩) hco.1 (by omega) hk
 rw [show (⟨s.nu+1,(s.at s.co).di,(s.at s.co).ne⟩:En)=⟨s.nu+1,0,s.co⟩ by rw [g.coE]] at h
 have e:s.beac=⟨s.co,s.nu+1,s.es.set s.co.toNat ⟨s.nu+1,0,s.co⟩⟩:=by unfold Sts.beac; rw [g.coE]
 rw [e]; exact h
theorem Good.beac {m:Ms} {s:Sts} (g:Good m s) (hn:s.nu < 1000000):Good m s.beac∧Mono m s s.beac:=by
 have hnu:=g.nu
 have hat:∀ k:Int,0≤k→s.beac.at k=if k=s.co then ⟨s.nu+1,0,s.co⟩ else s.at k:=fun k hk=>beac_at g hk
 refine ⟨⟨g.chk,g.co,⟨by show 1≤s.nu+1; omega,by show s.nu+1≤1000000; omega⟩,by unfold Sts.beac; show (List.set _ _ _).length=_; rw [List.length_set]; exact g.len,?_,?_,?_,?_,?_⟩,?_⟩
 ·intro k h0 h1
  have r:=g.rng k h0 h1
  have hco:=g.co
  rw [hat k h0]
  show (0≤_∧_≤s.nu+1)∧_
  split
  ·refine ⟨⟨?_,?_⟩,⟨?_,?_⟩,?_,?_⟩ <;> simp only <;> omega
  ·exact ⟨⟨r.1.1,by omega⟩,r.2⟩
 ·show s.beac.at s.co=⟨s.nu+1,0,s.co⟩
  rw [hat s.co g.co.1,if_pos rfl]
 ·intro k h0 h1 hk hz
  have hk:k≠s.co:=hk
  rw [hat k h0,if_neg hk] at hz ⊢
  exact g.bare k h0 h1 hk hz
 ·intro k h0 h1 hk hz
  have hk:k≠s.co:=hk
  rw [hat k h0,if_neg hk] at hz ⊢
  exact g.lnk k h0 h1 hk hz
 ·intro k h0 h1 hk hz
  have hk:k≠s.co:=hk
  have r:=g.rng k h0 h1
  rw [hat k h0,if_neg hk] at hz ⊢
  have l:=g.lead k h0 h1 hk hz
  rw [hat (s.at k).ne (by omega)]
  split
  ·left; show (s.at k).nu < s.nu+1; omega
  ·exact l
 ·intro k h0 h1
  have r:=g.rng k h0 h1
  rw [hat k h0]
  split
  ·left; show (s.at k).nu < s.nu+1; omega
  ·exact .inr ⟨rfl,Int.le_refl _⟩
theorem elec_at {m:Ms} {s:Sts} (g:Good m s) {i k:Int} (hi:0≤i) (hil:i < (m.ns.length:Int)) (hk:0≤k):(s.elec i).at k=if k=i then ⟨s.nu+1,0,i⟩ else if k=s.co then ⟨s.nu,0,-1⟩ else s.at k:=by
 have hco:=g.co
 have hle:=g.len
 have h1:=set_at (s:=s) (co:=s.co) (nu:=s.nu) (x:=⟨s.nu,0,-1⟩) (k:=k) hco.1 (by omega) hk
 have h2:=set_at (s:=⟨s.co,s.nu,s.es.set s.co.toNat ⟨s.nu,0,-1⟩⟩) (co:=i) (nu:=s.nu+1) (x:=⟨s.nu+1,0,i⟩) (k:=k) hi (by show i < ((s.es.set _ _).length:Int); rw [List.length_set]; omega) hk
 rw [h1] at h2
 exact h2
theorem Good.elec {m:Ms} {s:Sts} (g:Good m s) {i:Int} (hi:0≤i) (hil:i < (m.ns.length:Int)) (hne:i≠s.co) (hn:s.nu < 1000000):Good m (s.elec i)∧Mono m s (s.elec i):=by
 have hnu:=g.nu
 have hco:=g.co
 have hat:∀ k:Int,0≤k→(s.elec i).at k=if k=i then ⟨s.nu+1,0,i⟩ else if k=s.co then ⟨s.nu,0,-1⟩ else s.at k:=fun k hk=>elec_at g hi hil hk
 refine ⟨⟨g.chk,⟨hi,hil⟩,⟨by show 1≤s.nu+1; omega,by show s.nu+1≤1000000; omega⟩,by unfold Sts.elec; show (List.set _ _ _).length=_; rw [List.length_set,List.length_set]; exact g.len,?_,?_,?_,?_,?_⟩,?_⟩
 ·intro k h0 h1
  have r:=g.rng k h0 h1
  rw [hat k h0]
  show (0≤_∧_≤s.nu+1)∧_
  split
  ·refine ⟨⟨?_,?_⟩,⟨?_,?_⟩,?_,?_⟩ <;> simp only <;> omega
  ·split
   ·refine ⟨⟨?_,?_⟩,⟨?_,?_⟩,?_,?_⟩ <;> simp only <;> omega
   ·exact ⟨⟨r.1.1,by omega⟩,r.2⟩
 ·show (s.elec i).at i=⟨s.nu+1,0,i⟩
  rw [hat i hi,if_pos rfl]
 ·intro k h0 h1 hk hz
  have hk:k≠i:=hk
  rw [hat k h0,if_neg hk] at hz ⊢
  split at hz
  ·have hz:s.nu=0:=hz
   omega
  ·rename_i hc
   rw [if_neg hc]
   exact g.bare k h0 h1 hc hz
 ·intro k h0 h1 hk hz
  have hk:k≠i:=hk
  rw [hat k h0,if_neg hk] at hz ⊢
  split at hz
  ·exact absurd rfl hz
  ·rename_i hc
   rw [if_neg hc]
   exact g.lnk k h0 h1 hc hz
 ·intro k h0 h1 hk hz
  have hk:k≠i:=hk
  have r:=g.rng k h0 h1
  rw [hat k h0,if_neg hk] at hz ⊢
  split at hz
  ·exact absurd rfl hz
  ·rename_i hc
   rw [if_neg hc]
   have l:=g.lead k h0 h1 hc hz
   rw [hat (s.at k).ne (by omega)]
   split
   ·left; show (s.at k).nu < s.nu+1; omega
   ·split
    ·rename_i he
     rw [he,g.coE] at l
     rw [he]
     exact l
    ·exact l
 ·intro k h0 h1
  have r:=g.rng k h0 h1
  rw [hat k h0]
  split
  ·left; show (s.at k).nu < s.nu+1; omega
  ·split
   ·rename_i he
    rw [he,g.coE]
    exact .inr ⟨rfl,Int.le_refl _⟩
   ·exact .inr ⟨rfl,Int.le_refl _⟩
theorem cut1_at {s:Sts} {i o k:Int} (hi:0≤i) (hil:i < (s.es.length:Int)) (hk:0≤k):(⟨s.co,s.nu,cut1 s.es i o⟩:Sts).at k=if k=i∧(s.at i).ne=o then ⟨(s.at i).nu,(s.at i).di,-1⟩ else s.at k:=by
 have hx:=Sts.at_getI (s:=s) (i:=i) (by omega)
 by_cases h:(s.at i).ne=o
 ·rw [cut1_yes hx h,set_at hi hil hk]
  by_cases e:k=i
  ·rw [if_pos e,if_pos ⟨e,h⟩]
  ·rw [if_neg e,if_neg (fun x=>e x.1)]
 ·rw [cut1_no hx h,if_neg (fun x=>h x.2)]
theorem brok_at {m:Ms} {s:Sts} (g:Good m s) {i:Int} {l:Lk} (hl:m.ls[i.toNat]?=some l) {k:Int} (hk:0≤k):(s.brok m i).at k=if (k=l.a∧(s.at k).ne=l.b)∨(k=l.b∧(s.at k).ne=l.a) then ⟨(s.at k).nu,(s.at k).di,-1⟩ else s.at k:=by
 have hin:=(chk_fine g.chk).link (List.mem_of_getElem? hl)
 have hle:=g.len
 have e:s.brok m i=⟨s.co,s.nu,cut2 s.es l⟩:=by unfold Sts.brok; rw [hl]
 rw [e]
 unfold cut2
 have h2:=cut1_at (s:=⟨s.co,s.nu,cut1 s.es l.a l.b⟩) (i:=l.b) (o:=l.a) (k:=k) (by omega) (by show l.b < ((cut1 _ _ _).length:Int); rw [cut1_len]; omega) hk
 have h1k:=cut1_at (s:=s) (i:=l.a) (o:=l.b) (k:=k) (by omega) (by omega) hk
 have h1b:=cut1_at (s:=s) (i:=l.a) (o:=l.b) (k:=l.b) (by omega) (by omega) (by omega)
 rw [if_neg (show ¬ (l.b=l.a∧(s.at l.a).ne=l.b) by omega)] at h1b
 rw [h1b,h1k] at h2
 refine h2.trans ?_
 by_cases c1:k=l.b
 ·subst c1
  by_cases c2:(s.at l.b).ne=l.a
  ·rw [if_pos ⟨rfl,c2⟩,if_pos (.inr ⟨rfl,c2⟩)]
  ·rw [if_neg (fun x=>c2 x.2),if_neg (show ¬ (l.b=l.a∧(s.at l.a).ne=l.b) by omega),if_neg]
   rintro (⟨x,_⟩ | ⟨_,x⟩)
   ·omega
   ·exact c2 x
 ·rw [if_neg (fun x=>c1 x.1)]
  by_cases c3:k=l.a
  ·subst c3
   by_cases c4:(s.at l.a).ne=l.b
   ·rw [if_pos ⟨rfl,c4⟩,if_pos (.inl ⟨rfl,c4⟩)]
   ·rw [if_neg (fun x=>c4 x.2),if_neg]
    rintro (⟨_,x⟩ | ⟨x,_⟩)
    ·exact c4 x
    ·exact c1 x
  ·rw [if_neg (fun x=>c3 x.1),if_neg]
   rintro (⟨x,_⟩ | ⟨x,_⟩)
   ·exact c3 x
   ·exact c1 x
theorem brok_len2 (s:Sts) (m:Ms) (i:Int):(s.brok m i).es.length=s.es.length:=by
 unfold Sts.brok
 show (match m.ls[i.toNat]? with | some l=>cut2 s.es l | none=>s.es).length=_
 split
 ·unfold cut2; rw [cut1_len,cut1_len]
 ·rfl
theorem Good.brok {m:Ms} {s:Sts} (g:Good m s) {i:Int} (h0:0≤i) (h1:i < (m.ls.length:Int)):Good (m.brok i) (s.brok m i)∧Mono m s (s.brok m i):=by
 have hf:=chk_fine g.chk
 have hnu:=g.nu
 have hco:=g.co
 obtain ⟨l,hl⟩:=get_lt m.ls (k:=i.toNat) (by omega)
 have hin:=hf.link (List.mem_of_getElem? hl)
 have hat:∀ k:Int,0≤k→(s.brok m i).at k=if (k=l.a∧(s.at k).ne=l.b)∨(k=l.b∧(s.at k).ne=l.a) then ⟨(s.at k).nu,(s.at k).di,-1⟩ else s.at k:=fun k hk=>brok_at g hl hk
 have num:∀ k:Int,0≤k→((s.brok m i).at k).nu=(s.at k).nu∧((s.brok m i).at k).di=(s.at k).di:=fun k hk=>by
  rw [hat k hk]; split <;> exact ⟨rfl,rfl⟩
 have same:∀ k:Int,0≤k→k < (m.ns.length:Int)→((s.brok m i).at k).ne≠-1→(s.brok m i).at k=s.at k∧hit l k (s.at k).ne=false:=fun k hk hkl hn=>by
  rw [hat k hk] at hn ⊢
  split at hn
  ·exact absurd rfl hn
  ·rename_i hc
   rw [if_neg hc]
   refine ⟨rfl,?_⟩
   cases hh:hit l k (s.at k).ne
   ·rfl
   ·exfalso
    have h2:=hit_iff.1 hh
    apply hc
    omega
 have bets:∀ k:Int,0≤k→k < (m.ns.length:Int)→((s.brok m i).at k).ne≠-1→betw (m.brok i).ls k (s.at k).ne=betw m.ls k (s.at k).ne:=fun k hk hkl hn=>betw_erase hl (same k hk hkl hn).2
 refine ⟨⟨chk_of_fine (brok_fine hf i),g.co,g.nu,(brok_len2 s m i).trans g.len,?_,?_,?_,?_,?_⟩,?_⟩
 ·intro k hk hkl
  have r:=g.rng k hk hkl
  rw [hat k hk]
  show (0≤_∧_≤s.nu)∧_
  split
  ·refine ⟨r.1,r.2.1,?_,?_⟩
   ·show (-1:Int)≤-1; omega
   ·show (-1:Int) < (m.ns.length:Int); omega
  ·exact r
 ·show (s.brok m i).at s.co=⟨s.nu,0,s.co⟩
  rw [hat s.co hco.1,if_neg,g.coE]
  rw [g.coE]
  show ¬ ((s.co=l.a∧s.co=l.b)∨(s.co=l.b∧s.co=l.a))
  omega
 ·intro k hk hkl hc hz
  have hc:k≠s.co:=hc
  rw [(num k hk).1] at hz
  have hb:=g.bare k hk hkl hc hz
  rw [hat k hk,if_neg,hb]
  rw [hb]
  show ¬ ((k=l.a∧-1=l.b)∨(k=l.b∧-1=l.a))
  omega
 ·intro k hk hkl hc hz
  have hc:k≠s.co:=hc
  have hs:=same k hk hkl hz
  have hbe:=bets k hk hkl hz
  rw [hs.1] at hz ⊢
  rw [hbe]; exact g.lnk k hk hkl hc hz
 ·intro k hk hkl hc hz
  have hc:k≠s.co:=hc
  have r:=g.rng k hk hkl
  have hs:=same k hk hkl hz
  have hbe:=bets k hk hkl hz
  rw [hs.1] at hz ⊢
  rw [hbe,(num (s.at k).ne (by omega)).1,(num (s.at k).ne (by omega)).2]
  exact g.lead k hk hkl hc hz
 ·intro k hk hkl
  rw [(num k hk).1,(num k hk).2]
  exact .inr ⟨rfl,Int.le_refl _⟩
theorem first_o (a:Int):firstOf [a]=a:=by
 by_cases h:a=0
 ·rw [h]; rfl
 ·exact first_1 h
theorem Good.heard {m:Ms} {s:Sts} (g:Good m s) {a b:Int} (ha:0≤a∧a < (m.ns.length:Int)) (hb:0≤b∧b < (m.ns.length:Int)) (hbt:betw m.ls a b≠0):Good m (s.heard m a b)∧Mono m s (s.heard m a b):=by
 have hle:=g.len
 have hrng:=(chk_fine g.chk).rng a b
 have st:∀ k:Int,0≤k→k < (m.ns.length:Int)→(s.heard m a b).at k=s.at k∨(k≠s.co∧∃ u:Int,0≤u∧u < (m.ns.length:Int)∧(s.at u).ne≠-1∧0 < betw m.ls u k∧(s.at u).di+betw m.ls u k≤3200∧(s.heard m a b).at k=ofE m s u k∧((s.heard m a b).at k).bet (s.at k)):=fun k hk hkl=>by
  have e:(s.heard m a b).at k=if k=a then Vc.hr m s [] a (s.at a) b else s.at k:=set_at (s:=s) (co:=s.co) (nu:=s.nu) (x:=Vc.hr m s [] a (s.at a) b) ha.1 (by omega) hk
  rw [e]
  by_cases hka:k=a
  ·subst hka
   rw [if_pos rfl]
   rcases hr_ref m s [] k b (s.at k) with e2 | ⟨h1,h2,_,h4,e2⟩
   ·exact .inl e2
   ·right
    unfold ofB at h1
    simp only [Bool.and_eq_true,Bool.not_eq_true',beq_eq_false_iff_ne,decide_eq_true_eq] at h1
    refine ⟨h2,b,hb.1,hb.2,h1.1,by rw [betw_comm]; omega,h1.2,e2,?_⟩
    rw [e2]; exact betB_iff.1 h4
  ·rw [if_neg hka]; exact .inl rfl
 refine ⟨g.hears rfl rfl (heard_len m s a b) st,fun k hk hkl=>?_⟩
 rcases st k hk hkl with e | ⟨_,u,_,_,_,_,_,_,hb⟩
 ·rw [e]; exact .inr ⟨rfl,Int.le_refl _⟩
 ·unfold En.bet at hb; omega
end Vc
set_option maxRecDepth 10000
set_option maxHeartbeats 4000000
namespace Vc
open Go Go.Proofs
end Vc
set_option maxRecDepth 10000
set_option maxHeartbeats 4000000
namespace Vc
open Go Go.Proofs
def ir61:AFun:=⟨24,6,[.cell 2 2 true],
 (.seq
 (.reg [0,1] [⟨some 1,.cbx 0 2 (.tmp 0),none⟩,
 ⟨some 2,.alloc 1 [(.nils 1),(.nils 3)],none⟩])
 (.seq
 (.reg [2] [⟨some 6,.fad 0 (.tmp 1),none⟩,
 ⟨some 7,.ld false 1 (.tmp 6),none⟩,
 ⟨some 8,.build [(.nils 1),(.nils 3)] [(0,1,(.tmp 7))],none⟩,
 ⟨some 3,.alloc 2 [(.nils 1),(.nils 3)],none⟩,
 ⟨none,.st 2 (.tmp 3) (.tmp 8),none⟩])
 (.seq
 (.seq
 (.reg [] [⟨some 9,.fad 1 (.tmp 1),none⟩,
 ⟨some 10,.ld false 1 (.tmp 9),none⟩,
 ⟨some 11,.len (.tmp 10),none⟩,
 ⟨some 12,.mov (.cst (.d (.int .i64 0))),none⟩])
 (.post [2,3] [0,1,2,3,4,5]
 (.block 0
 (.keep [2,3,10,11,12] [0,1,2]
 (.loop
 (.post [2,3,10,11,12] [3,4,5]
 (.seq
 (.reg [] [⟨some 13,.cmp .lss (.tmp 12) (.tmp 11),none⟩])
 (.seq
 (.cond (.tmp 13)
 .skip
 (.exit 0))
 (.seq
 (.block 1
 (.seq
 (.reg [3] [⟨some 14,.ixa 3 (.tmp 10) (.tmp 12),none⟩,
 ⟨some 15,.ld true 3 (.tmp 14),none⟩,
 ⟨some 5,.alloc 3 [(.d (.int .i64 0)),(.d (.int .i64 0)),(.d (.int .i64 0))],none⟩,
 ⟨none,.st 3 (.tmp 5) (.tmp 15),none⟩])
 (.reg [4,5] [⟨some 16,.fad 1 (.tmp 3),none⟩,
 ⟨some 17,.ld false 1 (.tmp 16),none⟩,
 ⟨some 18,.ld true 3 (.tmp 5),none⟩,
 ⟨some 19,.bsl 4 114 3 1 [(.agg [(.int .i64 0),(.int .i64 0),(.int .i64 0)])] [(0,(.tmp 18))],none⟩,
 ⟨some 20,.app 5 114 3 24 (.tmp 17) (.tmp 19),none⟩,
 ⟨some 21,.fad 1 (.tmp 3),none⟩,
 ⟨none,.st 1 (.tmp 21) (.tmp 20),none⟩])))
 (.reg [] [⟨some 22,.arith .add .i64 (.tmp 12) (.cst (.d (.int .i64 1))),none⟩,
 ⟨some 12,.mov (.tmp 22),none⟩]))))))))))
 (.seq
 (.reg [] [⟨some 23,.ld true 2 (.tmp 3),none⟩,
 ⟨none,.st 2 (.tmp 2) (.tmp 23),none⟩])
 .ret))))⟩
def tolV (m:Ms):Nat→List (Nat × AObj)
 | 0=>[]
 | k+1=>[(2,.box [.d (.slice 1 (strs m.ns)),.sl 5 (lks (m.ls.take (k+1))).length]),(5,.row 114 3 (lks (m.ls.take (k+1))) false)]
theorem lks_snoc {l:List Lk} {k:Nat} {x:Lk} (h:l[k]?=some x):lks (l.take (k+1))=lks (l.take k)++[.agg [.int .i64 x.a,.int .i64 x.b,.int .i64 x.c]]:=by
 unfold lks; rw [take_one h,List.map_append]; rfl
theorem c61 (m:Ms) (hm:m.ns.length≤1048576) (hl2:m.ls.length≤1048576):CallDet Tryz.prog 61 [.d m.d] [m.d]:=by
 have hl:=lks_len m.ls
 refine call_of_vc (x:=ir61) (by kernel_rfl) rfl ?_
 rotate_left
 refine loop_u (fun k:Nat=>[(12,.d (.int .i64 k))]) (tolV m) (fun k=>k≤m.ls.length) (fun k=>m.ls.length - k) 0 rfl (Nat.zero_le _) ?_
 intro k hk
 have hk:k≤m.ls.length:=hk
 have fin:∀ X,X=lks m.ls→resV [.agg [.slice 1 (strs m.ns),.slice 3 X]]=resV [m.d]:=fun X h=>by rw [h]; rfl
 by_cases hkk:k < m.ls.length
 ·refine Exists.elim (get_lt m.ls hkk) fun x hx=>?_
  have hxd:(lks m.ls)[(k:Int).toNat]?=some (.agg [.int .i64 x.a,.int .i64 x.b,.int .i64 x.c]):=lks_at hx
  have e:=lks_snoc hx
  have ht:=lks_len (m.ls.take k)
  rw [List.length_take] at ht
  cases k with
  | zero =>
   refine sd ?_
   refine b_lt (fun t1=>?_) (fun t1=>?_)
   refine ix_at hxd ?_ ?_
   (show (0:Int)≤(↑(0:Nat):Int); omega)
   refine sd ?_
   refine sd ?_
   refine sd ?_
   refine an ?_ ?_
   refine an ?_ ?_
   (show (1:Nat) * (24:Nat)≤(2:Nat) ^ (47:Nat); omega)
   (show (1:Nat)≤(2:Nat) ^ (47:Nat); omega)
   refine sd ?_
   refine ar_add ?_ ?_
   refine an ?_ ?_
   (show (-9223372036854775808:Int)≤(↑(0:Nat):Int)+(1:Int); omega)
   (show (↑(0:Nat):Int)+(1:Int)≤(9223372036854775807:Int); omega)
   rotate_left
   (exfalso; omega)
   refine ⟨0+1,⟨by show 0+1≤m.ls.length; omega,by show m.ls.length - (0+1) < m.ls.length - 0; omega⟩,?_⟩
   show _=St.upd _ _ [(2,.box [.d (.slice 1 (strs m.ns)),.sl 5 (lks (m.ls.take (0+1))).length]),(5,.row 114 3 (lks (m.ls.take (0+1))) false)]
   rw [e]; rfl
  | succ k =>
   refine sd ?_
   refine b_lt (fun t1=>?_) (fun t1=>?_)
   refine ix_at hxd ?_ ?_
   (show (0:Int)≤(↑(k+(1:Nat)):Int); omega)
   refine sd ?_
   refine sd ?_
   refine sd ?_
   refine an ?_ ?_
   refine an ?_ ?_
   exact rfl
   refine an ?_ ?_
   exact rfl
   refine an ?_ ?_
   exact rfl
   refine an ?_ ?_
   (show (List.length (lks (List.take (k+(1:Nat)) (Ms.ls m)))+(1:Nat)) * (24:Nat)≤(2:Nat) ^ (47:Nat); omega)
   (show List.length (lks (List.take (k+(1:Nat)) (Ms.ls m)))+(1:Nat)≤(2:Nat) ^ (47:Nat); omega)
   refine sd ?_
   refine ar_add ?_ ?_
   refine an ?_ ?_
   (show (-9223372036854775808:Int)≤(↑(k+(1:Nat)):Int)+(1:Int); omega)
   (show (↑(k+(1:Nat)):Int)+(1:Int)≤(9223372036854775807:Int); omega)
   rotate_left
   (exfalso; omega)
   refine ⟨k+1+1,⟨by show k+1+1≤m.ls.length; omega,by show m.ls.length - (k+1+1) < m.ls.length - (k+1); omega⟩,?_⟩
   show _=St.upd _ _ [(2,.box [.d (.slice 1 (strs m.ns)),.sl 5 (lks (m.ls.take (k+1+1))).length]),(5,.row 114 3 (lks (m.ls.take (k+1+1))) false)]
   rw [e]; rfl
 ·have e:lks (m.ls.take k)=lks m.ls:=by rw [List.take_of_length_le (by omega)]
  cases k with
  | zero =>
   refine sd ?_
   refine b_lt (fun t1=>?_) (fun t1=>?_)
   (exfalso; omega)
   rotate_left
   exact fin _ e
  | succ k =>
   refine sd ?_
   refine b_lt (fun t1=>?_) (fun t1=>?_)
   (exfalso; omega)
   refine sd ?_
   rotate_left
   exact fin _ e
end Vc
set_option maxRecDepth 10000
set_option maxHeartbeats 4000000
namespace Vc
open Go Go.Proofs
def ir58:AFun:=⟨24,1,[.tmp 2],
 (.seq
 (.reg [0] [⟨some 1,.cbx 0 2 (.tmp 0),none⟩,
 ⟨some 2,.mov (.cst (.d (.bool false))),none⟩])
 (.seq
 (.reg [] [⟨some 3,.fad 0 (.tmp 1),none⟩,
 ⟨some 4,.ld false 1 (.tmp 3),none⟩,
 ⟨some 5,.len (.tmp 4),none⟩,
 ⟨some 6,.cmp .geq (.tmp 5) (.cst (.d (.int .i64 1))),none⟩,
 ⟨some 7,.mov (.tmp 6),none⟩,
 ⟨some 8,.fad 0 (.tmp 1),some (7,true)⟩,
 ⟨some 9,.ld false 1 (.tmp 8),some (7,true)⟩,
 ⟨some 10,.len (.tmp 9),some (7,true)⟩,
 ⟨some 11,.cmp .leq (.tmp 10) (.cst (.d (.int .i64 8))),some (7,true)⟩,
 ⟨some 12,.pick (.tmp 7) (.tmp 11) (.cst (.d (.bool false))),none⟩,
 ⟨some 13,.mov (.tmp 12),none⟩,
 ⟨some 14,.fad 1 (.tmp 1),some (13,true)⟩,
 ⟨some 15,.ld false 1 (.tmp 14),some (13,true)⟩,
 ⟨some 16,.len (.tmp 15),some (13,true)⟩,
 ⟨some 17,.cmp .leq (.tmp 16) (.cst (.d (.int .i64 18))),some (13,true)⟩,
 ⟨some 18,.pick (.tmp 13) (.tmp 17) (.cst (.d (.bool false))),none⟩,
 ⟨some 19,.mov (.tmp 18),none⟩,
 ⟨some 20,.ld true 2 (.tmp 1),some (19,true)⟩,
 ⟨some 21,.call 22 [(.tmp 20)],some (19,true)⟩,
 ⟨some 22,.cmp .eql (.tmp 21) (.cst (.d (.int .i64 0))),some (19,true)⟩,
 ⟨some 23,.pick (.tmp 19) (.tmp 22) (.cst (.d (.bool false))),none⟩,
 ⟨some 2,.mov (.tmp 23),none⟩])
 .ret))⟩
@[irreducible] def seg8s:ACode:=.post [7,8,11,13,18,19,20,82,83] [7,10] (.seq
 (.reg [] [⟨some 99,.ixp 3 1 (.tmp 15) (.cst (.d (.int .i64 0))),none⟩,
 ⟨some 100,.ld false 1 (.tmp 99),none⟩,
 ⟨some 101,.arith .rem .u8 (.tmp 100) (.cst (.d (.int .u8 6))),none⟩])
 (.block 4
 (.seq
 (.reg [] [⟨some 103,.cmp .eql (.tmp 101) (.cst (.d (.int .u8 0))),none⟩,
 ⟨some 102,.mov (.tmp 103),none⟩])
 (.cond (.tmp 102)
 (.regd [] [⟨some 105,.ld true 2 (.tmp 13),none⟩,
 ⟨some 106,.call 18 [(.tmp 105)],none⟩,
 ⟨some 107,.ld true 3 (.tmp 18),none⟩,
 ⟨some 108,.call 33 [(.tmp 107)],none⟩,
 ⟨some 109,.call 32 [(.tmp 106),(.tmp 108)],none⟩,
 ⟨some 104,.mov (.tmp 109),none⟩,
 ⟨some 110,.ext 0 (.tmp 104),none⟩,
 ⟨some 111,.ext 1 (.tmp 104),none⟩,
 ⟨none,.st 3 (.tmp 19) (.tmp 110),none⟩,
 ⟨some 20,.mov (.tmp 111),none⟩] [(0,2),(1,2),(6,7),(7,8)])
 (.seq
 (.seq
 (.reg [] [⟨some 113,.cmp .eql (.tmp 101) (.cst (.d (.int .u8 1))),none⟩,
 ⟨some 112,.mov (.tmp 113),none⟩])
 (.cond (.tmp 112)
 .skip
 (.reg [] [⟨some 114,.cmp .eql (.tmp 101) (.cst (.d (.int .u8 2))),none⟩,
 ⟨some 112,.mov (.tmp 114),none⟩])))
 (.cond (.tmp 112)
 (.regd [] [⟨some 116,.ld true 2 (.tmp 13),none⟩,
 ⟨some 117,.call 18 [(.tmp 116)],none⟩,
 ⟨some 118,.ld true 3 (.tmp 18),none⟩,
 ⟨some 119,.call 33 [(.tmp 118)],none⟩,
 ⟨some 120,.mov (.tmp 8),none⟩,
 ⟨some 121,.call 41 [(.tmp 120)],none⟩,
 ⟨some 122,.call 53 [(.tmp 117),(.tmp 119),(.tmp 121)],none⟩,
 ⟨some 115,.mov (.tmp 122),none⟩,
 ⟨some 123,.ext 0 (.tmp 115),none⟩,
 ⟨some 124,.ext 1 (.tmp 115),none⟩,
 ⟨none,.st 3 (.tmp 19) (.tmp 123),none⟩,
 ⟨some 20,.mov (.tmp 124),none⟩] [(0,2),(1,2),(0,4),(1,4),(2,4),(3,4),(8,9),(9,10)])
 (.seq
 (.reg [] [⟨some 126,.cmp .eql (.tmp 101) (.cst (.d (.int .u8 3))),none⟩,
 ⟨some 125,.mov (.tmp 126),none⟩])
 (.cond (.tmp 125)
 (.seq
 (.regd [] [⟨some 128,.ld true 2 (.tmp 13),none⟩,
 ⟨some 129,.call 18 [(.tmp 128)],none⟩,
 ⟨some 130,.ld true 3 (.tmp 18),none⟩,
 ⟨some 131,.call 33 [(.tmp 130)],none⟩,
 ⟨some 132,.mov (.tmp 16),none⟩,
 ⟨some 133,.mov (.tmp 17),none⟩,
 ⟨some 134,.call 52 [(.tmp 129),(.tmp 131),(.tmp 132),(.tmp 133)],none⟩,
 ⟨some 127,.mov (.tmp 134),none⟩,
 ⟨some 135,.ext 0 (.tmp 127),none⟩,
 ⟨some 136,.ext 1 (.tmp 127),none⟩,
 ⟨none,.st 3 (.tmp 19) (.tmp 135),none⟩,
 ⟨some 20,.mov (.tmp 136),none⟩] [(0,2),(1,2),(0,4),(1,4),(2,4),(3,4),(0,5),(1,5),(2,5),(3,5),(4,5),(8,9),(9,10)])
 (.seq
 (.reg [] [⟨some 137,.mov (.tmp 20),none⟩,
 ⟨some 138,.cmp .eql (.tmp 137) (.cst (.d (.int .i64 7))),none⟩])
 (.cond (.tmp 138)
 (.reg [] [⟨some 139,.ld true 3 (.tmp 18),none⟩,
 ⟨some 140,.call 33 [(.tmp 139)],none⟩,
 ⟨none,.st 3 (.tmp 19) (.tmp 140),none⟩,
 ⟨some 20,.mov (.cst (.d (.int .i64 0))),none⟩])
 .skip)))
 (.seq
 (.reg [] [⟨some 142,.cmp .eql (.tmp 101) (.cst (.d (.int .u8 4))),none⟩,
 ⟨some 141,.mov (.tmp 142),none⟩])
 (.cond (.tmp 141)
 (.seq
 (.reg [] [⟨some 143,.fad 1 (.tmp 13),none⟩,
 ⟨some 144,.ld false 1 (.tmp 143),none⟩,
 ⟨some 145,.len (.tmp 144),none⟩,
 ⟨some 146,.cmp .gtr (.tmp 145) (.cst (.d (.int .i64 0))),none⟩])
 (.cond (.tmp 146)
 (.seq
 (.reg [10] [⟨some 21,.alloc 10 [(.nils 1),(.nils 3)],none⟩])
 (.seq
 (.regd [] [⟨some 148,.ld true 2 (.tmp 13),none⟩,
 ⟨some 149,.call 18 [(.tmp 148)],none⟩,
 ⟨some 150,.ld true 3 (.tmp 18),none⟩,
 ⟨some 151,.call 33 [(.tmp 150)],none⟩,
 ⟨some 152,.mov (.tmp 16),none⟩,
 ⟨some 153,.fad 1 (.tmp 13),none⟩,
 ⟨some 154,.ld false 1 (.tmp 153),none⟩,
 ⟨some 155,.len (.tmp 154),none⟩,
 ⟨some 156,.arith .rem .i64 (.tmp 152) (.tmp 155),none⟩,
 ⟨some 157,.call 60 [(.tmp 149),(.tmp 151),(.tmp 156)],none⟩,
 ⟨some 147,.mov (.tmp 157),none⟩,
 ⟨some 158,.ext 0 (.tmp 147),none⟩,
 ⟨some 159,.ext 1 (.tmp 147),none⟩,
 ⟨some 160,.ext 2 (.tmp 147),none⟩,
 ⟨none,.st 2 (.tmp 21) (.tmp 158),none⟩,
 ⟨none,.st 3 (.tmp 19) (.tmp 159),none⟩,
 ⟨some 20,.mov (.tmp 160),none⟩] [(0,2),(1,2),(0,4),(1,4),(2,4),(3,4),(0,5),(1,5),(2,5),(3,5),(4,5),(0,6),(1,6),(2,6),(3,6),(4,6),(0,7),(1,7),(2,7),(3,7),(4,7),(0,8),(1,8),(2,8),(3,8),(11,12),(11,13),(12,13),(12,14),(13,14),(13,15)])
 (.seq
 (.seq
 (.reg [] [⟨some 161,.fad 1 (.tmp 21),none⟩,
 ⟨some 162,.ld false 1 (.tmp 161),none⟩,
 ⟨some 163,.len (.tmp 162),none⟩,
 ⟨some 164,.fad 1 (.tmp 13),none⟩,
 ⟨some 165,.ld false 1 (.tmp 164),none⟩,
 ⟨some 166,.len (.tmp 165),none⟩,
 ⟨some 167,.arith .sub .i64 (.tmp 166) (.cst (.d (.int .i64 1))),none⟩,
 ⟨some 168,.cmp .neq (.tmp 163) (.tmp 167),none⟩,
 ⟨some 169,.mov (.tmp 168),none⟩,
 ⟨some 170,.fad 0 (.tmp 21),some (169,false)⟩,
 ⟨some 171,.ld false 1 (.tmp 170),some (169,false)⟩,
 ⟨some 172,.len (.tmp 171),some (169,false)⟩,
 ⟨some 173,.mov (.tmp 7),some (169,false)⟩,
 ⟨some 174,.cmp .neq (.tmp 172) (.tmp 173),some (169,false)⟩,
 ⟨some 175,.pick (.tmp 169) (.cst (.d (.bool true))) (.tmp 174),none⟩])
 (.cond (.tmp 175)
 (.seq
 (.reg [] [⟨some 6,.mov (.cst (.d (.bool false))),none⟩])
 .ret)
 .skip))
 (.reg [] [⟨some 176,.ld true 2 (.tmp 21),none⟩,
 ⟨some 177,.call 61 [(.tmp 176)],none⟩,
 ⟨none,.st 2 (.tmp 13) (.tmp 177),none⟩]))))
 .skip))
 (.seq
 (.reg [] [⟨some 179,.cmp .eql (.tmp 101) (.cst (.d (.int .u8 5))),none⟩,
 ⟨some 178,.mov (.tmp 179),none⟩])
 (.cond (.tmp 178)
 (.seq
 (.reg [] [⟨some 180,.mov (.tmp 16),none⟩,
 ⟨some 181,.fad 0 (.tmp 18),none⟩,
 ⟨some 182,.ld false 1 (.tmp 181),none⟩,
 ⟨some 183,.cmp .neq (.tmp 180) (.tmp 182),none⟩])
 (.cond (.tmp 183)
 (.regd [] [⟨some 185,.ld true 2 (.tmp 13),none⟩,
 ⟨some 186,.call 18 [(.tmp 185)],none⟩,
 ⟨some 187,.ld true 3 (.tmp 18),none⟩,
 ⟨some 188,.call 33 [(.tmp 187)],none⟩,
 ⟨some 189,.mov (.tmp 16),none⟩,
 ⟨some 190,.call 62 [(.tmp 186),(.tmp 188),(.tmp 189)],none⟩,
 ⟨some 184,.mov (.tmp 190),none⟩,
 ⟨some 191,.ext 0 (.tmp 184),none⟩,
 ⟨some 192,.ext 1 (.tmp 184),none⟩,
 ⟨none,.st 3 (.tmp 19) (.tmp 191),none⟩,
 ⟨some 20,.mov (.tmp 192),none⟩] [(0,2),(1,2),(0,4),(1,4),(2,4),(3,4),(7,8),(8,9)])
 .skip))
 .skip))))))))))))
def fewB (m:Ms):Bool:=decide (1≤(m.ns.length:Int))&&(decide ((m.ns.length:Int)≤8)&&(decide ((m.ls.length:Int)≤18)&&(m.chk==0)))
theorem c58 (m:Ms) (hn:m.ns.length≤1048576) (hl:m.ls.length≤1048576):CallDet Tryz.prog 58 [.d m.d] [.bool (fewB m)]:=by
 have hsl:=strs_len m.ns
 have hll:=lks_len m.ls
 have fin:∀ b,fewB m=b→resV [.bool b]=resV [.bool (fewB m)]:=fun b h=>by rw [h]
 refine call_of_vc (x:=ir58) (by kernel_rfl) rfl ?_
 refine sd ?_
 refine b_le (fun t1=>?_) (fun t1=>?_)
 refine sd ?_
 refine b_le (fun t2=>?_) (fun t2=>?_)
 refine sd ?_
 refine b_le (fun t3=>?_) (fun t3=>?_)
 refine ca (c22 m hn hl) ?_
 refine sd ?_
 rotate_left
 refine sd ?_
 rotate_left
 refine sd ?_
 refine sd ?_
 rotate_left
 refine sd ?_
 refine sd ?_
 refine sd ?_
 rotate_left
 ·exact fin _ (by unfold fewB; rw [← hsl,← hll,decide_eq_true t1,decide_eq_true t2,decide_eq_true t3]; rfl)
 ·exact fin _ (by unfold fewB; rw [← hsl,← hll,decide_eq_true t1,decide_eq_true t2,decide_eq_false t3]; rfl)
 ·exact fin _ (by unfold fewB; rw [← hsl,← hll,decide_eq_true t1,decide_eq_false t2]; rfl)
 ·exact fin _ (by unfold fewB; rw [← hsl,← hll,decide_eq_false t1]; rfl)
theorem ar_remk {k:IntKind} {a b:Int} {K:Int→Prop} (h:0≤a) (hK:K (a % b)) (hb:b≠0):∃ r,(k=k∧k=k∧arithF .rem k a b=some r)∧K r :=
 ⟨_,⟨rfl,rfl,by simp only [arithF]; rw [if_neg hb,Int.tmod_eq_emod_of_nonneg h]⟩,hK⟩
theorem v8s {n : Nat} {m m0 : Ms} {s : Sts} {lost : List (Int × Int)} {a b c0 c1 c2 : Int} {xd kd : Data} {Q : AExit → St → Prop} (g : Good m s) (hnu : s.nu ≤ 1000) (h0 : m0.ns.length = m.ns.length)
  (ha:0≤a∧a < (m.ns.length:Int)) (hb:0≤b∧b < (m.ns.length:Int)) (hc:0≤c0) (hll:lost.length≤1048576) (hlo:pairsE m lost=0)
  (h:∀ m2 t,Good m2 t→Mono m s t→m2.ns=m.ns→t.nu≤s.nu+1→Q .normal ⟨[(7,.d (.int .i64 (strs m0.ns).length)),(8,.d (.slice 2 (prs lost))),(11,.ptr 5 0),(13,.ptr 6 0),(18,.ptr 8 0),(19,.ptr 9 0),(20,.d (.int .i64 0)),(82,.d xd),(83,.d kd)],[.none,.none,.none,.none,.none,.box [.d (.int .i64 s.co),.d (.int .i64 s.nu),.d (.slice 3 (ens s.es))],.box [.d (.slice 1 (strs m2.ns)),.d (.slice 3 (lks m2.ls))],.none,.box [.d (.int .i64 s.co),.d (.int .i64 s.nu),.d (.slice 3 (ens s.es))],.box [.d (.int .i64 t.co),.d (.int .i64 t.nu),.d (.slice 3 (ens t.es))],.none,.none,.none]⟩) :
  vc Tryz.prog n seg8s ⟨[(7,.d (.int .i64 (strs m0.ns).length)),(8,.d (.slice 2 (prs lost))),(11,.ptr 5 0),(13,.ptr 6 0),(15,.ptr 7 0),(16,.d (.int .i64 a)),(17,.d (.int .i64 b)),(18,.ptr 8 0),(19,.ptr 9 0),(20,.d (.int .i64 0)),(82,.d xd),(83,.d kd)],[.none,.none,.none,.none,.none,.box [.d (.int .i64 s.co),.d (.int .i64 s.nu),.d (.slice 3 (ens s.es))],.box [.d (.slice 1 (strs m.ns)),.d (.slice 3 (lks m.ls))],.box [.d (.int .u8 c0),.d (.int .u8 c1),.d (.int .u8 c2)],.box [.d (.int .i64 s.co),.d (.int .i64 s.nu),.d (.slice 3 (ens s.es))],.box [.d (.int .i64 s.co),.d (.int .i64 s.nu),.d (.slice 3 (ens s.es))],.none,.none,.none]⟩ Q:=by
 unfold seg8s
 have hf:=chk_fine g.chk
 have hle:=g.len
 have h32:=hf.n32
 have h128:=hf.l128
 have hco:=g.co
 have hchk:=of_good g
 have hsl:=strs_len m.ns
 have hlk:=lks_len m.ls
 have c32_:CallDet Tryz.prog 32 [.d m.d,.d s.d] [s.beac.d,.int .i64 0]:=by
  have h1:=c32 m s (by omega) (by omega) (by omega)
  have e:beacE m s=0:=by unfold beacE; rw [first_0 hchk,first_o,show (s.nu==1000000)=false by rw [beq_eq_false_iff_ne]; omega]; rfl
  rw [e] at h1; exact h1
 have c53_:CallDet Tryz.prog 53 [.d m.d,.d s.d,.d (.slice 2 (prs lost))] [(s.round m lost).d,.int .i64 0]:=by
  have h1:=c53 m s lost (by omega) (by omega) (by omega) hll
  unfold Sts.roundP at h1
  rw [first_0 hchk,first_o,hlo] at h1; exact h1
 have c62_:a≠s.co→CallDet Tryz.prog 62 [.d m.d,.d s.d,.d (.int .i64 a)] [(s.elec a).d,.int .i64 0]:=fun hne=>by
  have h1:=c62 m s a (by omega) (by omega) (by omega)
  have e:elecE m s a=0:=by
   unfold elecE
   rw [first_0 hchk,first_0 (by unfold Ms.nodeE outN; rw [decide_eq_false (by omega),decide_eq_false (by omega)]; rfl),show (a==s.co)=false by rw [beq_eq_false_iff_ne]; exact hne,show (s.nu==1000000)=false by rw [beq_eq_false_iff_ne]; omega]; rfl
  rw [e] at h1; exact h1
 have nodes:firstOf [m.chkS s,m.nodeE a,m.nodeE b]=0:=by
  rw [first_0 hchk,first_0 (by unfold Ms.nodeE outN; rw [decide_eq_false (by omega),decide_eq_false (by omega)]; rfl),first_o]
  unfold Ms.nodeE outN; rw [decide_eq_false (by omega),decide_eq_false (by omega)]; rfl
 have hrem:0 < ((lks m.ls).length:Int)→0≤a % ((lks m.ls).length:Int)∧a % ((lks m.ls).length:Int) < (m.ls.length:Int):=fun h=>⟨Int.emod_nonneg _ (by omega),by have:=Int.emod_lt_of_pos a h; omega⟩
 have c60_:0 < ((lks m.ls).length:Int)→CallDet Tryz.prog 60 [.d m.d,.d s.d,.d (.int .i64 (a % ((lks m.ls).length:Int)))] [(m.brok (a % ((lks m.ls).length:Int))).d,(s.brok m (a % ((lks m.ls).length:Int))).d,.int .i64 0]:=fun h=>by
  have h1:=c60 m s (a % ((lks m.ls).length:Int)) (by omega) (by omega) (by omega)
  have hq:=hrem h
  have e:brokE m s (a % ((lks m.ls).length:Int))=0:=by
   unfold brokE outN
   rw [first_0 hchk,first_o,decide_eq_false (by omega),decide_eq_false (by omega)]; rfl
  rw [e] at h1; exact h1
 have nb:0 < ((lks m.ls).length:Int)→((lks (m.brok (a % ((lks m.ls).length:Int))).ls).length:Int)=((lks m.ls).length:Int) - 1:=fun h=>by
  have hq:=hrem h
  rw [lks_len]
  unfold Ms.brok
  show (((m.ls.eraseIdx _).length:Nat):Int)=_
  rw [List.length_eraseIdx,if_pos (by omega)]; omega
 have nbn:((strs (m.brok (a % ((lks m.ls).length:Int))).ns).length:Int)=((strs m0.ns).length:Int):=by
  rw [strs_len,strs_len,h0]; rfl
 have nbl:(m.brok (a % ((lks m.ls).length:Int))).ls.length≤m.ls.length:=List.length_eraseIdx_le _ _
 have nbs0:(m.brok (a % ((lks m.ls).length:Int))).ns.length=m.ns.length:=rfl
 have hbe:=g.beac (by omega)
 have fin0:=h m s g (Mono.refl m s) rfl (by omega)
 by_cases hbt:betw m.ls a b=0
 ·have c52_ : CallDet Tryz.prog 52 [.d m.d, .d s.d, .d (.int .i64 a), .d (.int .i64 b)] [Sts.zero.d, .int .i64 7] := by
   have h1:=c52 m s a b (by omega) (by omega) (by omega)
   have e:heardE m s a b=7:=by unfold heardE heaE; rw [if_0 nodes,hbt]; rfl
   rw [e] at h1; exact h1
  refine an ?_ ?_
  refine an ?_ ?_
  (show (0:Int)≤(0:Int); omega)
  (show (0:Int) < (↑(3:Nat):Int); omega)
  rotate_left
  refine ar_remk hc ?_ (by decide)
  refine sd ?_
  refine b_eq (fun t1=>?_) (fun t1=>?_)
  refine ca (c18 m (by omega) (by omega)) ?_
  refine ca (c33 s (by omega)) ?_
  refine ca c32_ ?_
  rotate_left
  refine sd ?_
  refine b_eq (fun t2=>?_) (fun t2=>?_)
  refine b_eq (fun t3=>?_) (fun t3=>?_)
  refine ca (c18 m (by omega) (by omega)) ?_
  refine ca (c33 s (by omega)) ?_
  refine ca (c41 lost hll) ?_
  refine ca c53_ ?_
  rotate_left
  (exfalso; omega)
  refine sd ?_
  refine b_eq (fun t4=>?_) (fun t4=>?_)
  refine ca (c18 m (by omega) (by omega)) ?_
  refine ca (c33 s (by omega)) ?_
  refine ca (c41 lost hll) ?_
  refine ca c53_ ?_
  rotate_left
  refine sd ?_
  refine b_eq (fun t5=>?_) (fun t5=>?_)
  refine ca (c18 m (by omega) (by omega)) ?_
  refine ca (c33 s (by omega)) ?_
  refine ca c52_ ?_
  refine sd ?_
  refine ca (c33 s (by omega)) ?_
  rotate_left
  refine sd ?_
  refine b_eq (fun t6=>?_) (fun t6=>?_)
  refine sd ?_
  refine b_lt (fun t7=>?_) (fun t7=>?_)
  refine ca (c18 m (by omega) (by omega)) ?_
  refine ca (c33 s (by omega)) ?_
  refine ar_rem ?_ ?_
  refine an ?_ ?_
  (show (0:Int)≤a; omega)
  assumption
  refine ca (c60_ ‹_›) ?_
  refine ar_sub ?_ ?_
  refine an ?_ ?_
  (show (-9223372036854775808:Int)≤(↑(List.length (lks (Ms.ls m))):Int) - (1:Int); omega)
  (show (↑(List.length (lks (Ms.ls m))):Int) - (1:Int)≤(9223372036854775807:Int); omega)
  refine sd ?_
  refine b_ne (fun t8=>?_) (fun t8=>?_)
  (exfalso; omega)
  refine sd ?_
  refine b_ne (fun t9=>?_) (fun t9=>?_)
  (exfalso; omega)
  refine ca (c61 (m.brok (a % ((lks m.ls).length:Int))) (by omega) (by omega)) ?_
  rotate_left
  rotate_left
  refine sd ?_
  refine b_eq (fun t10=>?_) (fun t10=>?_)
  refine sd ?_
  refine b_ne (fun t11=>?_) (fun t11=>?_)
  refine ca (c18 m (by omega) (by omega)) ?_
  refine ca (c33 s (by omega)) ?_
  refine ca (c62_ ‹_›) ?_
  rotate_left
  rotate_left
  (exfalso; omega)
  ·exact h m s.beac hbe.1 hbe.2 rfl (by show s.nu+1≤s.nu+1; omega)
  ·exact h m (s.round m lost) (g.round lost) (g.mono_round lost) rfl (by show s.nu≤s.nu+1; omega)
  ·exact h m (s.round m lost) (g.round lost) (g.mono_round lost) rfl (by show s.nu≤s.nu+1; omega)
  ·exact fin0
  ·exact h (m.brok (a % ((lks m.ls).length:Int))) (s.brok m (a % ((lks m.ls).length:Int))) (g.brok (hrem ‹_›).1 (hrem ‹_›).2).1 (g.brok (hrem ‹_›).1 (hrem ‹_›).2).2 rfl (by show s.nu≤s.nu+1; omega)
  ·exact fin0
  ·exact h m (s.elec a) (g.elec ha.1 ha.2 ‹_› (by omega)).1 (g.elec ha.1 ha.2 ‹_› (by omega)).2 rfl (by show s.nu+1≤s.nu+1; omega)
  ·exact fin0
 ·have c52_ : CallDet Tryz.prog 52 [.d m.d, .d s.d, .d (.int .i64 a), .d (.int .i64 b)] [(s.heard m a b).d, .int .i64 0] := by
   have h1:=c52 m s a b (by omega) (by omega) (by omega)
   have e:heardE m s a b=0:=by unfold heardE heaE; rw [if_0 nodes,show (betw m.ls a b==0)=false by rw [beq_eq_false_iff_ne]; exact hbt]; rfl
   rw [e] at h1; exact h1
  refine an ?_ ?_
  refine an ?_ ?_
  (show (0:Int)≤(0:Int); omega)
  (show (0:Int) < (↑(3:Nat):Int); omega)
  rotate_left
  refine ar_remk hc ?_ (by decide)
  refine sd ?_
  refine b_eq (fun t1=>?_) (fun t1=>?_)
  refine ca (c18 m (by omega) (by omega)) ?_
  refine ca (c33 s (by omega)) ?_
  refine ca c32_ ?_
  rotate_left
  refine sd ?_
  refine b_eq (fun t2=>?_) (fun t2=>?_)
  refine b_eq (fun t3=>?_) (fun t3=>?_)
  refine ca (c18 m (by omega) (by omega)) ?_
  refine ca (c33 s (by omega)) ?_
  refine ca (c41 lost hll) ?_
  refine ca c53_ ?_
  rotate_left
  (exfalso; omega)
  refine sd ?_
  refine b_eq (fun t4=>?_) (fun t4=>?_)
  refine ca (c18 m (by omega) (by omega)) ?_
  refine ca (c33 s (by omega)) ?_
  refine ca (c41 lost hll) ?_
  refine ca c53_ ?_
  rotate_left
  refine sd ?_
  refine b_eq (fun t5=>?_) (fun t5=>?_)
  refine ca (c18 m (by omega) (by omega)) ?_
  refine ca (c33 s (by omega)) ?_
  refine ca c52_ ?_
  refine sd ?_
  rotate_left
  refine sd ?_
  refine b_eq (fun t6=>?_) (fun t6=>?_)
  refine sd ?_
  refine b_lt (fun t7=>?_) (fun t7=>?_)
  refine ca (c18 m (by omega) (by omega)) ?_
  refine ca (c33 s (by omega)) ?_
  refine ar_rem ?_ ?_
  refine an ?_ ?_
  (show (0:Int)≤a; omega)
  assumption
  refine ca (c60_ ‹_›) ?_
  refine ar_sub ?_ ?_
  refine an ?_ ?_
  (show (-9223372036854775808:Int)≤(↑(List.length (lks (Ms.ls m))):Int) - (1:Int); omega)
  (show (↑(List.length (lks (Ms.ls m))):Int) - (1:Int)≤(9223372036854775807:Int); omega)
  refine sd ?_
  refine b_ne (fun t8=>?_) (fun t8=>?_)
  (exfalso; omega)
  refine sd ?_
  refine b_ne (fun t9=>?_) (fun t9=>?_)
  (exfalso; omega)
  refine ca (c61 (m.brok (a % ((lks m.ls).length:Int))) (by omega) (by omega)) ?_
  rotate_left
  rotate_left
  refine sd ?_
  refine b_eq (fun t10=>?_) (fun t10=>?_)
  refine sd ?_
  refine b_ne (fun t11=>?_) (fun t11=>?_)
  refine ca (c18 m (by omega) (by omega)) ?_
  refine ca (c33 s (by omega)) ?_
  refine ca (c62_ ‹_›) ?_
  rotate_left
  rotate_left
  (exfalso; omega)
  ·exact h m s.beac hbe.1 hbe.2 rfl (by show s.nu+1≤s.nu+1; omega)
  ·exact h m (s.round m lost) (g.round lost) (g.mono_round lost) rfl (by show s.nu≤s.nu+1; omega)
  ·exact h m (s.round m lost) (g.round lost) (g.mono_round lost) rfl (by show s.nu≤s.nu+1; omega)
  ·exact h m (s.heard m a b) (g.heard ha hb hbt).1 (g.heard ha hb hbt).2 rfl (by show s.nu≤s.nu+1; omega)
  ·exact h (m.brok (a % ((lks m.ls).length:Int))) (s.brok m (a % ((lks m.ls).length:Int))) (g.brok (hrem ‹_›).1 (hrem ‹_›).2).1 (g.brok (hrem ‹_›).1 (hrem ‹_›).2).2 rfl (by show s.nu≤s.nu+1; omega)
  ·exact fin0
  ·exact h m (s.elec a) (g.elec ha.1 ha.2 ‹_› (by omega)).1 (g.elec ha.1 ha.2 ‹_› (by omega)).2 rfl (by show s.nu+1≤s.nu+1; omega)
  ·exact fin0
end Vc
set_option maxRecDepth 10000
set_option maxHeartbeats 4000000
namespace Vc
open Go Go.Proofs
@[irreducible] def seg8f:ACode:=(.post [7,8,11,13,18,19,25,82,83,208,209,210] [0,1,2,3,4,5,6,7,8,9,10,11,12]
 (.block 7
 (.keep [7,8,11,13,18,19,25,82,83,208,209,210,240,241] [0,1,2,3,4,5,6,7,8,9,10,11,12]
 (.loop
 (.post [7,8,11,13,18,19,25,82,83,208,209,210,240,241] []
 (.seq
 (.reg [] [⟨some 242,.cmp .lss (.tmp 241) (.tmp 240),none⟩])
 (.seq
 (.cond (.tmp 242)
 .skip
 (.exit 7))
 (.seq
 (.block 8
 (.seq
 (.seq
 (.reg [] [⟨some 243,.mov (.tmp 25),none⟩,
 ⟨some 244,.fad 0 (.tmp 19),none⟩,
 ⟨some 245,.ld false 1 (.tmp 244),none⟩,
 ⟨some 246,.cmp .neq (.tmp 243) (.tmp 245),none⟩])
 (.cond (.tmp 246)
 (.reg [] [⟨some 247,.fad 2 (.tmp 19),none⟩,
 ⟨some 248,.ld false 1 (.tmp 247),none⟩,
 ⟨some 249,.mov (.tmp 25),none⟩,
 ⟨some 250,.ixa 3 (.tmp 248) (.tmp 249),none⟩,
 ⟨some 251,.fad 2 (.tmp 250),none⟩,
 ⟨some 252,.ld false 1 (.tmp 251),none⟩,
 ⟨some 25,.mov (.tmp 252),none⟩])
 .skip))
 (.seq
 (.reg [] [⟨some 253,.mov (.tmp 25),none⟩,
 ⟨some 254,.cmp .lss (.tmp 253) (.cst (.d (.int .i64 0))),none⟩,
 ⟨some 255,.mov (.tmp 254),none⟩,
 ⟨some 256,.mov (.tmp 25),some (255,false)⟩,
 ⟨some 257,.mov (.tmp 7),some (255,false)⟩,
 ⟨some 258,.cmp .geq (.tmp 256) (.tmp 257),some (255,false)⟩,
 ⟨some 259,.pick (.tmp 255) (.cst (.d (.bool true))) (.tmp 258),none⟩])
 (.cond (.tmp 259)
 (.exit 7)
 .skip))))
 (.reg [] [⟨some 260,.arith .add .i64 (.tmp 241) (.cst (.d (.int .i64 1))),none⟩,
 ⟨some 241,.mov (.tmp 260),none⟩])))))))))
@[irreducible] def seg8e:ACode:=(.post [7,8,11,13,19,82,83] [0,1,2,3,4,5,6,7,8,9,10,11,12]
 (.block 5
 (.keep [7,8,11,13,18,19,82,83,208,209,210] [0,1,2,3,4,5,6,7,8,9,10]
 (.loop
 (.post [7,8,11,13,18,19,82,83,208,209,210] [11,12]
 (.seq
 (.reg [] [⟨some 211,.cmp .lss (.tmp 210) (.tmp 209),none⟩])
 (.seq
 (.cond (.tmp 211)
 .skip
 (.exit 5))
 (.seq
 (.block 6
 (.seq
 (.reg [11] [⟨some 212,.mov (.tmp 210),none⟩,
 ⟨some 213,.ixa 3 (.tmp 208) (.tmp 210),none⟩,
 ⟨some 214,.ld true 3 (.tmp 213),none⟩,
 ⟨some 23,.alloc 11 [(.d (.int .i64 0)),(.d (.int .i64 0)),(.d (.int .i64 0))],none⟩,
 ⟨some 22,.mov (.tmp 212),none⟩,
 ⟨none,.st 3 (.tmp 23) (.tmp 214),none⟩])
 (.seq
 (.reg [12] [⟨some 215,.fad 2 (.tmp 18),none⟩,
 ⟨some 216,.ld false 1 (.tmp 215),none⟩,
 ⟨some 217,.mov (.tmp 22),none⟩,
 ⟨some 218,.ixa 3 (.tmp 216) (.tmp 217),none⟩,
 ⟨some 219,.ld true 3 (.tmp 218),none⟩,
 ⟨some 24,.alloc 12 [(.d (.int .i64 0)),(.d (.int .i64 0)),(.d (.int .i64 0))],none⟩,
 ⟨none,.st 3 (.tmp 24) (.tmp 219),none⟩])
 (.seq
 (.seq
 (.reg [] [⟨some 220,.fad 0 (.tmp 23),none⟩,
 ⟨some 221,.ld false 1 (.tmp 220),none⟩,
 ⟨some 222,.fad 0 (.tmp 24),none⟩,
 ⟨some 223,.ld false 1 (.tmp 222),none⟩,
 ⟨some 224,.cmp .lss (.tmp 221) (.tmp 223),none⟩,
 ⟨some 225,.mov (.tmp 224),none⟩,
 ⟨some 226,.fad 0 (.tmp 23),some (225,false)⟩,
 ⟨some 227,.ld false 1 (.tmp 226),some (225,false)⟩,
 ⟨some 228,.fad 0 (.tmp 24),some (225,false)⟩,
 ⟨some 229,.ld false 1 (.tmp 228),some (225,false)⟩,
 ⟨some 230,.cmp .eql (.tmp 227) (.tmp 229),some (225,false)⟩,
 ⟨some 231,.mov (.tmp 230),some (225,false)⟩,
 ⟨some 232,.fad 1 (.tmp 23),some (231,true)⟩,
 ⟨some 233,.ld false 1 (.tmp 232),some (231,true)⟩,
 ⟨some 234,.fad 1 (.tmp 24),some (231,true)⟩,
 ⟨some 235,.ld false 1 (.tmp 234),some (231,true)⟩,
 ⟨some 236,.cmp .gtr (.tmp 233) (.tmp 235),some (231,true)⟩,
 ⟨some 237,.pick (.tmp 231) (.tmp 236) (.cst (.d (.bool false))),some (225,false)⟩,
 ⟨some 238,.pick (.tmp 225) (.cst (.d (.bool true))) (.tmp 237),none⟩])
 (.cond (.tmp 238)
 (.seq
 (.reg [] [⟨some 6,.mov (.cst (.d (.bool false))),none⟩])
 .ret)
 .skip))
 (.seq
 (.reg [] [⟨some 239,.mov (.tmp 22),none⟩,
 ⟨some 25,.mov (.tmp 239),none⟩])
 (.seq
 (.seq
 (.reg [] [⟨some 240,.mov (.tmp 7),none⟩,
 ⟨some 241,.mov (.cst (.d (.int .i64 0))),none⟩])
 (.keep [7,8,11,13,18,19,25,82,83,208,209,210,240,241] [0,1,2,3,4,5,6,7,8,9,10,11,12] seg8f))
 (.seq
 (.reg [] [⟨some 261,.mov (.tmp 25),none⟩,
 ⟨some 262,.cmp .lss (.tmp 261) (.cst (.d (.int .i64 (-1)))),none⟩,
 ⟨some 263,.mov (.tmp 262),none⟩,
 ⟨some 264,.mov (.tmp 25),some (263,false)⟩,
 ⟨some 265,.mov (.tmp 7),some (263,false)⟩,
 ⟨some 266,.cmp .geq (.tmp 264) (.tmp 265),some (263,false)⟩,
 ⟨some 267,.pick (.tmp 263) (.cst (.d (.bool true))) (.tmp 266),none⟩,
 ⟨some 268,.mov (.tmp 267),none⟩,
 ⟨some 269,.mov (.tmp 25),some (268,false)⟩,
 ⟨some 270,.cmp .geq (.tmp 269) (.cst (.d (.int .i64 0))),some (268,false)⟩,
 ⟨some 271,.mov (.tmp 270),some (268,false)⟩,
 ⟨some 272,.mov (.tmp 25),some (271,true)⟩,
 ⟨some 273,.fad 0 (.tmp 19),some (271,true)⟩,
 ⟨some 274,.ld false 1 (.tmp 273),some (271,true)⟩,
 ⟨some 275,.cmp .neq (.tmp 272) (.tmp 274),some (271,true)⟩,
 ⟨some 276,.pick (.tmp 271) (.tmp 275) (.cst (.d (.bool false))),some (268,false)⟩,
 ⟨some 277,.pick (.tmp 268) (.cst (.d (.bool true))) (.tmp 276),none⟩])
 (.cond (.tmp 277)
 (.seq
 (.reg [] [⟨some 6,.mov (.cst (.d (.bool false))),none⟩])
 .ret)
 .skip))))))))
 (.reg [] [⟨some 278,.arith .add .i64 (.tmp 210) (.cst (.d (.int .i64 1))),none⟩,
 ⟨some 210,.mov (.tmp 278),none⟩])))))))))
@[irreducible] def seg8b:ACode:=.post [7,8,11,13,82,83] [7,8,9,10,11,12] (.seq
 (.regd [] [⟨some 86,.ixp 3 1 (.tmp 15) (.cst (.d (.int .i64 1))),none⟩,
 ⟨some 87,.ld false 1 (.tmp 86),none⟩,
 ⟨some 88,.conv .i64 (.tmp 87),none⟩,
 ⟨some 89,.mov (.tmp 7),none⟩,
 ⟨some 90,.arith .rem .i64 (.tmp 88) (.tmp 89),none⟩,
 ⟨some 91,.ixp 3 1 (.tmp 15) (.cst (.d (.int .i64 2))),none⟩,
 ⟨some 92,.ld false 1 (.tmp 91),none⟩,
 ⟨some 93,.conv .i64 (.tmp 92),none⟩,
 ⟨some 94,.mov (.tmp 7),none⟩,
 ⟨some 95,.arith .rem .i64 (.tmp 93) (.tmp 94),none⟩,
 ⟨some 16,.mov (.tmp 90),none⟩,
 ⟨some 17,.mov (.tmp 95),none⟩] [(0,3),(1,3),(2,3),(0,5),(1,5),(2,5),(3,5),(4,5),(0,6),(1,6),(2,6),(3,6),(4,6),(0,7),(1,7),(2,7),(3,7),(4,7),(0,8),(1,8),(2,8),(3,8),(4,8),(5,8),(6,8),(7,8),(0,9),(1,9),(2,9),(3,9),(4,9),(5,10),(6,10),(7,10),(8,10),(9,10)])
 (.seq
 (.reg [8] [⟨some 96,.ld true 3 (.tmp 11),none⟩,
 ⟨some 97,.call 59 [(.tmp 96)],none⟩,
 ⟨some 18,.alloc 8 [(.d (.int .i64 0)),(.d (.int .i64 0)),(.nils 3)],none⟩,
 ⟨none,.st 3 (.tmp 18) (.tmp 97),none⟩])
 (.seq
 (.reg [9] [⟨some 98,.ld true 3 (.tmp 11),none⟩,
 ⟨some 19,.alloc 9 [(.d (.int .i64 0)),(.d (.int .i64 0)),(.nils 3)],none⟩,
 ⟨none,.st 3 (.tmp 19) (.tmp 98),none⟩,
 ⟨some 20,.mov (.cst (.d (.int .i64 0))),none⟩])
 (.seq
 (.keep [7,8,11,13,15,16,17,18,19,20,82,83] [] seg8s)
 (.seq
 (.seq
 (.reg [] [⟨some 193,.mov (.tmp 20),none⟩,
 ⟨some 194,.cmp .neq (.tmp 193) (.cst (.d (.int .i64 0))),none⟩,
 ⟨some 195,.mov (.tmp 194),none⟩,
 ⟨some 196,.fad 2 (.tmp 19),some (195,false)⟩,
 ⟨some 197,.ld false 1 (.tmp 196),some (195,false)⟩,
 ⟨some 198,.len (.tmp 197),some (195,false)⟩,
 ⟨some 199,.mov (.tmp 7),some (195,false)⟩,
 ⟨some 200,.cmp .neq (.tmp 198) (.tmp 199),some (195,false)⟩,
 ⟨some 201,.pick (.tmp 195) (.cst (.d (.bool true))) (.tmp 200),none⟩,
 ⟨some 202,.mov (.tmp 201),none⟩,
 ⟨some 203,.ld true 2 (.tmp 13),some (202,false)⟩,
 ⟨some 204,.call 22 [(.tmp 203)],some (202,false)⟩,
 ⟨some 205,.cmp .neq (.tmp 204) (.cst (.d (.int .i64 0))),some (202,false)⟩,
 ⟨some 206,.pick (.tmp 202) (.cst (.d (.bool true))) (.tmp 205),none⟩])
 (.cond (.tmp 206)
 (.seq
 (.reg [] [⟨some 6,.mov (.cst (.d (.bool false))),none⟩])
 .ret)
 .skip))
 (.seq
 (.seq
 (.reg [] [⟨some 207,.fad 2 (.tmp 19),none⟩,
 ⟨some 208,.ld false 1 (.tmp 207),none⟩,
 ⟨some 209,.len (.tmp 208),none⟩,
 ⟨some 210,.mov (.cst (.d (.int .i64 0))),none⟩])
 (.keep [7,8,11,13,18,19,82,83,208,209,210] [0,1,2,3,4,5,6,7,8,9,10,11,12] seg8e))
 (.seq
 (.seq
 (.regd [] [⟨some 279,.ld true 2 (.tmp 13),none⟩,
 ⟨some 280,.call 18 [(.tmp 279)],none⟩,
 ⟨some 281,.ld true 3 (.tmp 19),none⟩,
 ⟨some 282,.call 59 [(.tmp 281)],none⟩,
 ⟨some 283,.call 33 [(.tmp 282)],none⟩,
 ⟨some 284,.call 37 [(.tmp 280),(.tmp 283)],none⟩,
 ⟨some 285,.cmp .neq (.tmp 284) (.cst (.d (.int .i64 0))),none⟩] [(0,2),(1,2)])
 (.cond (.tmp 285)
 (.seq
 (.reg [] [⟨some 6,.mov (.cst (.d (.bool false))),none⟩])
 .ret)
 .skip))
 (.reg [] [⟨some 286,.ld true 3 (.tmp 19),none⟩,
 ⟨none,.st 3 (.tmp 11) (.tmp 286),none⟩]))))))))
theorem v8f {n : Nat} {m m0 : Ms} {s t : Sts} {lost : List (Int × Int)} {j i : Int} {xd kd : Data} {Q : AExit → St → Prop} (g : Good m t) (h0 : m0.ns.length = m.ns.length) (hj : 0 ≤ j ∧ j < (m.ns.length : Int))
  (h:∀ e,e=-1∨e=t.co→Q .normal ⟨[(7,.d (.int .i64 (strs m0.ns).length)),(8,.d (.slice 2 (prs lost))),(11,.ptr 5 0),(13,.ptr 6 0),(18,.ptr 8 0),(19,.ptr 9 0),(25,.d (.int .i64 e)),(82,.d xd),(83,.d kd),(208,.d (.slice 3 (ens t.es))),(209,.d (.int .i64 (ens t.es).length)),(210,.d (.int .i64 i))],[.none,.none,.none,.none,.none,.box [.d (.int .i64 s.co),.d (.int .i64 s.nu),.d (.slice 3 (ens s.es))],.box [.d (.slice 1 (strs m.ns)),.d (.slice 3 (lks m.ls))],.none,.box [.d (.int .i64 s.co),.d (.int .i64 s.nu),.d (.slice 3 (ens s.es))],.box [.d (.int .i64 t.co),.d (.int .i64 t.nu),.d (.slice 3 (ens t.es))],.none,.none,.none]⟩) :
  vc Tryz.prog n seg8f ⟨[(7,.d (.int .i64 (strs m0.ns).length)),(8,.d (.slice 2 (prs lost))),(11,.ptr 5 0),(13,.ptr 6 0),(18,.ptr 8 0),(19,.ptr 9 0),(25,.d (.int .i64 j)),(82,.d xd),(83,.d kd),(208,.d (.slice 3 (ens t.es))),(209,.d (.int .i64 (ens t.es).length)),(210,.d (.int .i64 i)),(240,.d (.int .i64 (strs m0.ns).length)),(241,.d (.int .i64 0))],[.none,.none,.none,.none,.none,.box [.d (.int .i64 s.co),.d (.int .i64 s.nu),.d (.slice 3 (ens s.es))],.box [.d (.slice 1 (strs m.ns)),.d (.slice 3 (lks m.ls))],.none,.box [.d (.int .i64 s.co),.d (.int .i64 s.nu),.d (.slice 3 (ens s.es))],.box [.d (.int .i64 t.co),.d (.int .i64 t.nu),.d (.slice 3 (ens t.es))],.none,.none,.none]⟩ Q:=by
 unfold seg8f
 have hf:=chk_fine g.chk
 have hle:=g.len
 have h32:=hf.n32
 have hco:=g.co
 have hsl:=strs_len m0.ns
 have hel:=ens_len t.es
 refine loop_u (fun q:Nat × Int=>[(25,.d (.int .i64 q.2)),(241,.d (.int .i64 (q.1:Int)))]) (fun _=>[]) (fun q=>(0≤q.2∧q.2 < (m.ns.length:Int))∧(q.1≤m.ns.length∧(q.2=t.co∨rkS m.ns.length t q.2+q.1 < m.ns.length))) (fun q=>m.ns.length - q.1) (0,j) rfl ⟨hj,Nat.zero_le _,.inr (rkS_lt t hj.1 hj.2)⟩ ?_
 rintro ⟨k,b⟩ ⟨⟨hb0,hb1⟩,hk,hr⟩
 have hb0:0≤b:=hb0
 have hb1:b < (m.ns.length:Int):=hb1
 have hk:k≤m.ns.length:=hk
 have hr:b=t.co∨rkS m.ns.length t b+k < m.ns.length:=hr
 have hx:=ens_atI (Sts.at_getI (s:=t) (i:=b) (by omega))
 have rg:=t.at b
 dsimp only
 have hr2:b≠t.co→rkS m.ns.length t b+k < m.ns.length:=fun h=>hr.resolve_left h
 by_cases hc:b=t.co
 ·refine sd ?_
  refine b_lt (fun t1=>?_) (fun t1=>?_)
  refine sd ?_
  refine b_ne (fun t2=>?_) (fun t2=>?_)
  (exfalso; omega)
  refine sd ?_
  refine b_lt (fun t3=>?_) (fun t3=>?_)
  (exfalso; omega)
  refine sd ?_
  refine b_le (fun t4=>?_) (fun t4=>?_)
  (exfalso; omega)
  refine ar_add ?_ ?_
  refine an ?_ ?_
  (show (-9223372036854775808:Int)≤(↑k:Int)+(1:Int); omega)
  (show (↑k:Int)+(1:Int)≤(9223372036854775807:Int); omega)
  rotate_left
  rotate_left
  ·exact ⟨(k+1,b),⟨⟨⟨hb0,hb1⟩,by show k+1≤m.ns.length; omega,.inl hc⟩,by show m.ns.length - (k+1) < m.ns.length - k; omega⟩,rfl⟩
  ·exact h b (.inr hc)
 ·have r:=g.rng b hb0 hb1
  have hr3:=hr2 hc
  by_cases hn:(t.at b).ne=-1
  ·refine sd ?_
   refine b_lt (fun t1=>?_) (fun t1=>?_)
   refine sd ?_
   refine b_ne (fun t2=>?_) (fun t2=>?_)
   refine ix_at hx ?_ ?_
   assumption
   refine sd ?_
   refine b_lt (fun t3=>?_) (fun t3=>?_)
   refine sd ?_
   rotate_left
   (exfalso; omega)
   (exfalso; omega)
   (exfalso; omega)
   ·exact h _ (.inl hn)
  ·have kx:=g.nxt hb0 hb1 hc hn
   have kr:=g.rk_lt hb0 hb1 hc hn
   refine sd ?_
   refine b_lt (fun t1=>?_) (fun t1=>?_)
   refine sd ?_
   refine b_ne (fun t2=>?_) (fun t2=>?_)
   refine ix_at hx ?_ ?_
   assumption
   refine sd ?_
   refine b_lt (fun t3=>?_) (fun t3=>?_)
   (exfalso; omega)
   refine sd ?_
   refine b_le (fun t4=>?_) (fun t4=>?_)
   (exfalso; omega)
   refine ar_add ?_ ?_
   refine an ?_ ?_
   (show (-9223372036854775808:Int)≤(↑k:Int)+(1:Int); omega)
   (show (↑k:Int)+(1:Int)≤(9223372036854775807:Int); omega)
   rotate_left
   (exfalso; omega)
   (exfalso; omega)
   ·exact ⟨(k+1,(t.at b).ne),⟨⟨⟨kx.1,kx.2.1⟩,by show k+1≤m.ns.length; omega,.inr (by show rkS m.ns.length t (t.at b).ne+(k+1) < m.ns.length; omega)⟩,by show m.ns.length - (k+1) < m.ns.length - k; omega⟩,rfl⟩
theorem v8e {n : Nat} {m m0 : Ms} {s t : Sts} {lost : List (Int × Int)} {xd kd : Data} {Q : AExit → St → Prop} (g : Good m t) (h0 : m0.ns.length = m.ns.length) (hsl : s.es.length = m.ns.length) (hm : Mono m s t)
  (h:Q .normal ⟨[(7,.d (.int .i64 (strs m0.ns).length)),(8,.d (.slice 2 (prs lost))),(11,.ptr 5 0),(13,.ptr 6 0),(19,.ptr 9 0),(82,.d xd),(83,.d kd)],[.none,.none,.none,.none,.none,.box [.d (.int .i64 s.co),.d (.int .i64 s.nu),.d (.slice 3 (ens s.es))],.box [.d (.slice 1 (strs m.ns)),.d (.slice 3 (lks m.ls))],.none,.none,.box [.d (.int .i64 t.co),.d (.int .i64 t.nu),.d (.slice 3 (ens t.es))],.none,.none,.none]⟩) :
  vc Tryz.prog n seg8e ⟨[(7,.d (.int .i64 (strs m0.ns).length)),(8,.d (.slice 2 (prs lost))),(11,.ptr 5 0),(13,.ptr 6 0),(18,.ptr 8 0),(19,.ptr 9 0),(82,.d xd),(83,.d kd),(208,.d (.slice 3 (ens t.es))),(209,.d (.int .i64 (ens t.es).length)),(210,.d (.int .i64 0))],[.none,.none,.none,.none,.none,.box [.d (.int .i64 s.co),.d (.int .i64 s.nu),.d (.slice 3 (ens s.es))],.box [.d (.slice 1 (strs m.ns)),.d (.slice 3 (lks m.ls))],.none,.box [.d (.int .i64 s.co),.d (.int .i64 s.nu),.d (.slice 3 (ens s.es))],.box [.d (.int .i64 t.co),.d (.int .i64 t.nu),.d (.slice 3 (ens t.es))],.none,.none,.none]⟩ Q:=by
 unfold seg8e
 have hf:=chk_fine g.chk
 have hle:=g.len
 have h32:=hf.n32
 have hco:=g.co
 have hs0:=strs_len m0.ns
 have hel:=ens_len t.es
 have hes:=ens_len s.es
 refine loop_u (fun q:Nat=>[(210,.d (.int .i64 (q:Int)))]) (fun _=>[]) (fun q=>q≤m.ns.length) (fun q=>m.ns.length - q) 0 rfl (Nat.zero_le _) ?_
 intro k hk
 have hk:k≤m.ns.length:=hk
 dsimp only
 by_cases hkl:k < m.ns.length
 ·have hx:=ens_atI (Sts.at_getI (s:=t) (i:=(k:Int)) (by omega))
  have hy:=ens_atI (Sts.at_getI (s:=s) (i:=(k:Int)) (by omega))
  have hmk:=hm k (by omega) (by omega)
  have r:=g.rng k (by omega) (by omega)
  refine sd ?_
  refine b_lt (fun t1=>?_) (fun t1=>?_)
  refine ix_at hx ?_ ?_
  (show (0:Int)≤(↑k:Int); omega)
  refine ix_at hy ?_ ?_
  (show (0:Int)≤(↑k:Int); omega)
  refine sd ?_
  refine b_lt (fun t2=>?_) (fun t2=>?_)
  (exfalso; omega)
  refine sd ?_
  refine b_eq (fun t3=>?_) (fun t3=>?_)
  refine sd ?_
  refine b_lt (fun t4=>?_) (fun t4=>?_)
  (exfalso; omega)
  rotate_left
  refine sd ?_
  rotate_left
  (exfalso; omega)
  all_goals
   refine v8f g h0 ⟨by omega,by omega⟩ (fun e he=>?_)
   refine sd ?_
   refine b_lt (fun t4=>?_) (fun t4=>?_)
   (exfalso; omega)
   refine sd ?_
   refine b_le (fun t5=>?_) (fun t5=>?_)
   (exfalso; omega)
   refine sd ?_
   refine b_le (fun t6=>?_) (fun t6=>?_)
   refine sd ?_
   refine b_ne (fun t7=>?_) (fun t7=>?_)
   (exfalso; omega)
   refine ar_add ?_ ?_
   refine an ?_ ?_
   (show (-9223372036854775808:Int)≤(↑k:Int)+(1:Int); omega)
   (show (↑k:Int)+(1:Int)≤(9223372036854775807:Int); omega)
   rotate_left
   refine sd ?_
   refine ar_add ?_ ?_
   refine an ?_ ?_
   (show (-9223372036854775808:Int)≤(↑k:Int)+(1:Int); omega)
   (show (↑k:Int)+(1:Int)≤(9223372036854775807:Int); omega)
   rotate_left
   all_goals exact ⟨k+1,⟨by show k+1≤m.ns.length; omega,by show m.ns.length - (k+1) < m.ns.length - k; omega⟩,rfl⟩
 ·refine sd ?_
  refine b_lt (fun t1=>?_) (fun t1=>?_)
  (exfalso; omega)
  rotate_left
  exact h
theorem v8b {n : Nat} {m m0 : Ms} {s : Sts} {lost : List (Int × Int)} {c0 c1 c2 : Int} {xd kd : Data} {Q : AExit → St → Prop} (g : Good m s) (hnu : s.nu ≤ 1000) (h0 : m0.ns.length = m.ns.length)
  (hc0:0≤c0) (hc1:0≤c1∧c1≤255) (hc2:0≤c2∧c2≤255) (hll:lost.length≤1048576) (hlo:pairsE m lost=0)
  (h:∀ m2 t,Good m2 t→m2.ns=m.ns→t.nu≤s.nu+1→Q .normal ⟨[(7,.d (.int .i64 (strs m0.ns).length)),(8,.d (.slice 2 (prs lost))),(11,.ptr 5 0),(13,.ptr 6 0),(82,.d xd),(83,.d kd)],[.none,.none,.none,.none,.none,.box [.d (.int .i64 t.co),.d (.int .i64 t.nu),.d (.slice 3 (ens t.es))],.box [.d (.slice 1 (strs m2.ns)),.d (.slice 3 (lks m2.ls))],.none,.none,.none,.none,.none,.none]⟩) :
  vc Tryz.prog n seg8b ⟨[(7,.d (.int .i64 (strs m0.ns).length)),(8,.d (.slice 2 (prs lost))),(11,.ptr 5 0),(13,.ptr 6 0),(15,.ptr 7 0),(82,.d xd),(83,.d kd)],[.none,.none,.none,.none,.none,.box [.d (.int .i64 s.co),.d (.int .i64 s.nu),.d (.slice 3 (ens s.es))],.box [.d (.slice 1 (strs m.ns)),.d (.slice 3 (lks m.ls))],.box [.d (.int .u8 c0),.d (.int .u8 c1),.d (.int .u8 c2)],.none,.none,.none,.none,.none]⟩ Q:=by
 unfold seg8b
 have hf:=chk_fine g.chk
 have hle:=g.len
 have h32:=hf.n32
 have h128:=hf.l128
 have hco:=g.co
 have hs0:=strs_len m0.ns
 have hes:=ens_len s.es
 have w1:IntKind.i64.wrap c1=c1:=by rw [IntKind.wrap_i64]; omega
 have w2:IntKind.i64.wrap c2=c2:=by rw [IntKind.wrap_i64]; omega
 refine an ?_ ?_
 refine an ?_ ?_
 (show (0:Int)≤(1:Int); omega)
 (show (1:Int) < (↑(3:Nat):Int); omega)
 refine ca rfl ?_
 refine ar_rem ?_ ?_
 refine an ?_ ?_
 (show (0:Int)≤IntKind.wrap IntKind.i64 c1; omega)
 (show (1:Int)≤(↑(List.length (strs (Ms.ns m0))):Int); omega)
 refine an ?_ ?_
 refine an ?_ ?_
 (show (0:Int)≤(2:Int); omega)
 (show (2:Int) < (↑(3:Nat):Int); omega)
 refine ca rfl ?_
 refine ar_rem ?_ ?_
 refine an ?_ ?_
 (show (0:Int)≤IntKind.wrap IntKind.i64 c2; omega)
 (show (1:Int)≤(↑(List.length (strs (Ms.ns m0))):Int); omega)
 refine ca (c59 s (by omega)) ?_
 rotate_left
 refine v8s g hnu h0 ⟨Int.emod_nonneg _ (by omega),by have:=Int.emod_lt_of_pos (IntKind.i64.wrap c1) (b:=((strs m0.ns).length:Int)) (by omega); omega⟩ ⟨Int.emod_nonneg _ (by omega),by have:=Int.emod_lt_of_pos (IntKind.i64.wrap c2) (b:=((strs m0.ns).length:Int)) (by omega); omega⟩ hc0 hll hlo (fun m2 t g2 hm hns hnu2=>?_)
 have hf2:=chk_fine g2.chk
 have hle2:=g2.len
 have h322:=hf2.n32
 have h1282:=hf2.l128
 have h02:m0.ns.length=m2.ns.length:=by rw [hns]; exact h0
 have hsl2:s.es.length=m2.ns.length:=by rw [hns]; exact hle
 have hm2:Mono m2 s t:=by unfold Mono at hm ⊢; rw [hns]; exact hm
 have het:=ens_len t.es
 have hk2:=of_good g2
 have c22_:CallDet Tryz.prog 22 [.d m2.d] [.int .i64 0]:=by
  have h1:=c22 m2 (by omega) (by omega)
  rw [g2.chk] at h1; exact h1
 have c37_:CallDet Tryz.prog 37 [.d m2.d,.d t.d] [.int .i64 0]:=by
  have h1:=c37 m2 t (by omega) (by omega) (by omega)
  rw [hk2] at h1; exact h1
 refine sd ?_
 refine sd ?_
 refine b_ne (fun t1=>?_) (fun t1=>?_)
 (exfalso; omega)
 refine ca c22_ ?_
 refine sd ?_
 rotate_left
 refine v8e g2 h02 hsl2 hm2 ?_
 refine ca (c18 m2 (by omega) (by omega)) ?_
 refine ca (c59 t (by omega)) ?_
 refine ca (c33 t (by omega)) ?_
 refine ca c37_ ?_
 refine sd ?_
 rotate_left
 exact h m2 t g2 hns hnu2
end Vc
set_option maxRecDepth 10000
set_option maxHeartbeats 4000000
namespace Vc
open Go Go.Proofs
def u8p (p:Int × Int):Data:=.agg [.int .u8 p.1,.int .u8 p.2]
def u8ps (l:List (Int × Int)):List Data:=l.map u8p
theorem u8ps_len (l:List (Int × Int)):(u8ps l).length=l.length:=by unfold u8ps; exact List.length_map _
theorem u8ps_at {l:List (Int × Int)} {k:Nat} {p:Int × Int} (h:l[k]?=some p):(u8ps l)[((k:Int)).toNat]?=some (.agg [.int .u8 p.1,.int .u8 p.2]):=by
 show (u8ps l)[k]?=_
 unfold u8ps; rw [List.getElem?_map,h]; rfl
def redp (n:Int) (p:Int × Int):Int × Int:=(IntKind.i64.wrap p.1 % n,IntKind.i64.wrap p.2 % n)
def ir8:AFun:=⟨289,13,[.tmp 6],
 (.seq
 (.reg [0,1] [⟨some 3,.cbx 0 2 (.tmp 0),none⟩,
 ⟨some 5,.cbx 1 25 (.tmp 2),none⟩,
 ⟨some 6,.mov (.cst (.d (.bool false))),none⟩])
 (.seq
 (.seq
 (.reg [] [⟨some 26,.ld true 2 (.tmp 3),none⟩,
 ⟨some 27,.call 58 [(.tmp 26)],none⟩,
 ⟨some 28,.not (.tmp 27),none⟩,
 ⟨some 29,.mov (.tmp 28),none⟩,
 ⟨some 30,.fad 24 (.tmp 5),some (29,false)⟩,
 ⟨some 31,.ld false 1 (.tmp 30),some (29,false)⟩,
 ⟨some 32,.len (.tmp 31),some (29,false)⟩,
 ⟨some 33,.cmp .gtr (.tmp 32) (.cst (.d (.int .i64 8))),some (29,false)⟩,
 ⟨some 34,.pick (.tmp 29) (.cst (.d (.bool true))) (.tmp 33),none⟩])
 (.cond (.tmp 34)
 (.seq
 (.reg [] [⟨some 35,.call 16 [],none⟩,
 ⟨some 6,.mov (.tmp 35),none⟩])
 .ret)
 .skip))
 (.seq
 (.reg [] [⟨some 36,.fad 0 (.tmp 3),none⟩,
 ⟨some 37,.ld false 1 (.tmp 36),none⟩,
 ⟨some 38,.len (.tmp 37),none⟩,
 ⟨some 7,.mov (.tmp 38),none⟩])
 (.seq
 (.reg [] [⟨some 8,.mov (.cst (.nils 2)),none⟩])
 (.seq
 (.seq
 (.reg [] [⟨some 39,.fad 24 (.tmp 5),none⟩,
 ⟨some 40,.ld false 1 (.tmp 39),none⟩,
 ⟨some 41,.len (.tmp 40),none⟩,
 ⟨some 42,.mov (.cst (.d (.int .i64 0))),none⟩])
 (.post [1,3,5,7,8] [0,1,2,3,4]
 (.block 0
 (.asrow 4 76 2 8
 (.keep [1,3,5,7,8,40,41,42] [0,1]
 (.loop
 (.post [1,3,5,7,8,40,41,42] [2,3,4]
 (.seq
 (.reg [] [⟨some 43,.cmp .lss (.tmp 42) (.tmp 41),none⟩])
 (.seq
 (.cond (.tmp 43)
 .skip
 (.exit 0))
 (.seq
 (.block 1
 (.seq
 (.reg [2] [⟨some 44,.ixa 2 (.tmp 40) (.tmp 42),none⟩,
 ⟨some 45,.ld true 2 (.tmp 44),none⟩,
 ⟨some 10,.alloc 2 [(.d (.int .u8 0)),(.d (.int .u8 0))],none⟩,
 ⟨none,.st 2 (.tmp 10) (.tmp 45),none⟩])
 (.regd [3,4] [⟨some 46,.mov (.tmp 8),none⟩,
 ⟨some 47,.ixp 2 1 (.tmp 10) (.cst (.d (.int .i64 0))),none⟩,
 ⟨some 48,.ld false 1 (.tmp 47),none⟩,
 ⟨some 49,.conv .i64 (.tmp 48),none⟩,
 ⟨some 50,.mov (.tmp 7),none⟩,
 ⟨some 51,.arith .rem .i64 (.tmp 49) (.tmp 50),none⟩,
 ⟨some 52,.ixp 2 1 (.tmp 10) (.cst (.d (.int .i64 1))),none⟩,
 ⟨some 53,.ld false 1 (.tmp 52),none⟩,
 ⟨some 54,.conv .i64 (.tmp 53),none⟩,
 ⟨some 55,.mov (.tmp 7),none⟩,
 ⟨some 56,.arith .rem .i64 (.tmp 54) (.tmp 55),none⟩,
 ⟨some 57,.build [(.d (.int .i64 0)),(.d (.int .i64 0))] [(0,1,(.tmp 51)),(1,1,(.tmp 56))],none⟩,
 ⟨some 58,.bsl 3 76 2 1 [(.agg [(.int .i64 0),(.int .i64 0)])] [(0,(.tmp 57))],none⟩,
 ⟨some 59,.app 4 76 2 16 (.tmp 46) (.tmp 58),none⟩,
 ⟨some 8,.mov (.tmp 59),none⟩] [(0,1),(0,2),(0,3),(0,4),(1,4),(2,4),(3,4),(0,5),(0,6),(1,6),(2,6),(3,6),(4,6),(5,6),(0,7),(1,7),(2,7),(3,7),(4,7),(5,7),(0,8),(1,8),(2,8),(3,8),(4,8),(5,8),(0,9),(1,9),(2,9),(3,9),(4,9),(5,9),(6,9),(7,9),(8,9),(0,10),(1,10),(2,10),(3,10),(4,10),(5,10),(0,11),(0,12)])))
 (.reg [] [⟨some 60,.arith .add .i64 (.tmp 42) (.cst (.d (.int .i64 1))),none⟩,
 ⟨some 42,.mov (.tmp 60),none⟩])))))))))))
 (.seq
 (.regd [5] [⟨some 62,.ld true 2 (.tmp 3),none⟩,
 ⟨some 63,.call 18 [(.tmp 62)],none⟩,
 ⟨some 64,.mov (.tmp 1),none⟩,
 ⟨some 65,.conv .i64 (.tmp 64),none⟩,
 ⟨some 66,.mov (.tmp 7),none⟩,
 ⟨some 67,.arith .rem .i64 (.tmp 65) (.tmp 66),none⟩,
 ⟨some 68,.call 31 [(.tmp 63),(.tmp 67)],none⟩,
 ⟨some 61,.mov (.tmp 68),none⟩,
 ⟨some 69,.ext 0 (.tmp 61),none⟩,
 ⟨some 70,.ext 1 (.tmp 61),none⟩,
 ⟨some 11,.alloc 5 [(.d (.int .i64 0)),(.d (.int .i64 0)),(.nils 3)],none⟩,
 ⟨none,.st 3 (.tmp 11) (.tmp 69),none⟩,
 ⟨some 12,.mov (.tmp 70),none⟩] [(0,2),(1,2),(0,3),(1,3),(0,4),(1,4),(2,4),(3,4),(0,5),(1,5),(8,9),(0,10),(1,10),(2,10),(3,10),(4,10),(5,10),(6,10),(7,10),(8,10),(9,10),(9,11)])
 (.seq
 (.seq
 (.reg [] [⟨some 71,.mov (.tmp 12),none⟩,
 ⟨some 72,.cmp .neq (.tmp 71) (.cst (.d (.int .i64 0))),none⟩,
 ⟨some 73,.mov (.tmp 72),none⟩,
 ⟨some 74,.fad 2 (.tmp 11),some (73,false)⟩,
 ⟨some 75,.ld false 1 (.tmp 74),some (73,false)⟩,
 ⟨some 76,.len (.tmp 75),some (73,false)⟩,
 ⟨some 77,.mov (.tmp 7),some (73,false)⟩,
 ⟨some 78,.cmp .neq (.tmp 76) (.tmp 77),some (73,false)⟩,
 ⟨some 79,.pick (.tmp 73) (.cst (.d (.bool true))) (.tmp 78),none⟩])
 (.cond (.tmp 79)
 (.seq
 (.reg [] [⟨some 6,.mov (.cst (.d (.bool false))),none⟩])
 .ret)
 .skip))
 (.seq
 (.reg [6] [⟨some 80,.ld true 2 (.tmp 3),none⟩,
 ⟨some 13,.alloc 6 [(.nils 1),(.nils 3)],none⟩,
 ⟨none,.st 2 (.tmp 13) (.tmp 80),none⟩])
 (.seq
 (.seq
 (.reg [] [⟨some 81,.fad 0 (.tmp 5),none⟩,
 ⟨some 82,.ld true 24 (.tmp 81),none⟩,
 ⟨some 83,.mov (.cst (.d (.int .i64 0))),none⟩])
 (.post [] [0,1,2,3,4,5,6,7,8,9,10,11,12]
 (.block 2
 (.asdat 8 (.keep [7,8,11,13,82,83] [0,1,2,3,4,5,6]
 (.loop
 (.post [7,8,11,13,82,83] [7,8,9,10,11,12]
 (.seq
 (.reg [] [⟨some 84,.cmp .lss (.tmp 83) (.cst (.d (.int .i64 8))),none⟩])
 (.seq
 (.cond (.tmp 84)
 .skip
 (.exit 2))
 (.seq
 (.block 3
 (.seq
 (.reg [7] [⟨some 85,.ixv true 8 3 (.tmp 82) (.tmp 83),none⟩,
 ⟨some 15,.alloc 7 [(.d (.int .u8 0)),(.d (.int .u8 0)),(.d (.int .u8 0))],none⟩,
 ⟨none,.st 3 (.tmp 15) (.tmp 85),none⟩])
 (.keep [7,8,11,13,15,82,83] [] seg8b)))
 (.reg [] [⟨some 287,.arith .add .i64 (.tmp 83) (.cst (.d (.int .i64 1))),none⟩,
 ⟨some 83,.mov (.tmp 287),none⟩])))))))))))
 (.seq
 (.reg [] [⟨some 288,.call 16 [],none⟩,
 ⟨some 6,.mov (.tmp 288),none⟩])
 .ret))))))))))⟩
theorem first_all:∀ (l:List Int),(∀ x∈l,x=0)→firstOf l=0
 | [],_=>rfl
 | x::r,h=>by rw [first_0 (h x (.head _))]; exact first_all r (fun y hy=>h y (.tail _ hy))
theorem pair_red {m:Ms} {n:Int} (hn:0 < n) (h:n=(m.ns.length:Int)) (q:Int × Int):pairE m (redp n q)=0:=by
 have a0:=Int.emod_nonneg (IntKind.i64.wrap q.1) (b:=n) (by omega)
 have a1:=Int.emod_lt_of_pos (IntKind.i64.wrap q.1) hn
 have b0:=Int.emod_nonneg (IntKind.i64.wrap q.2) (b:=n) (by omega)
 have b1:=Int.emod_lt_of_pos (IntKind.i64.wrap q.2) hn
 unfold pairE redp
 refine first_all _ (fun x hx=>?_)
 have hz:∀ i:Int,0≤i→i < n→m.nodeE i=0:=fun i h0 h1=>by
  unfold Ms.nodeE outN
  rw [decide_eq_false (by omega),decide_eq_false (by omega)]; rfl
 cases hx with
 | head=>exact hz _ a0 a1
 | tail _ hx=>cases hx with
  | head=>exact hz _ b0 b1
  | tail _ hx=>cases hx
theorem c8 (hw : CallDet Tryz.prog 16 [] [.bool true]) (m : Ms) (st : Int) (q0 q1 q2 q3 q4 q5 q6 q7 q8 q9 q10 q11 q12 q13 q14 q15 q16 q17 q18 q19 q20 q21 q22 q23 : Int) (lo : List (Int × Int)) (hm : m.ns.length ≤ 1048576) (hl : m.ls.length ≤ 1048576) (hlo : lo.length ≤ 1048576)
  (hst:0≤st∧st≤255) (hc:∀ c∈[q0,q1,q2,q3,q4,q5,q6,q7,q8,q9,q10,q11,q12,q13,q14,q15,q16,q17,q18,q19,q20,q21,q22,q23],0≤c∧c≤255) (hlp:∀ p∈lo,(0≤p.1∧p.1≤255)∧(0≤p.2∧p.2≤255)) :
  CallDet Tryz.prog 8 [.d m.d,.d (.int .u8 st),.d (.agg [.int .u8 q0,.int .u8 q1,.int .u8 q2,.int .u8 q3,.int .u8 q4,.int .u8 q5,.int .u8 q6,.int .u8 q7,.int .u8 q8,.int .u8 q9,.int .u8 q10,.int .u8 q11,.int .u8 q12,.int .u8 q13,.int .u8 q14,.int .u8 q15,.int .u8 q16,.int .u8 q17,.int .u8 q18,.int .u8 q19,.int .u8 q20,.int .u8 q21,.int .u8 q22,.int .u8 q23,.slice 2 (u8ps lo)])] [.bool true]:=by
 have c16_:=hw
 have hlen:=u8ps_len lo
 have hsl:=strs_len m.ns
 refine call_of_vc (x:=ir8) (by kernel_rfl) rfl ?_
 by_cases hfw:fewB m=true
 ·have c58_:CallDet Tryz.prog 58 [.d m.d] [.bool true]:=by have h1:=c58 m hm hl; rw [hfw] at h1; exact h1
  have hf4:(1≤(m.ns.length:Int)∧(m.ns.length:Int)≤8)∧m.chk=0:=by
   unfold fewB at hfw
   simp only [Bool.and_eq_true,decide_eq_true_eq,beq_iff_eq] at hfw
   exact ⟨⟨hfw.1,hfw.2.1⟩,hfw.2.2.2⟩
  have hn1:=hf4.1.1
  have hn8:=hf4.1.2
  have hchk:=hf4.2
  by_cases h8:((u8ps lo).length:Int)≤8
  ·have hn0:((strs m.ns).length:Int)≠0:=by omega
   have hpos:0 < ((strs m.ns).length:Int):=by omega
   refine ca c58_ ?_
   refine sd ?_
   refine b_lt (fun t1=>?_) (fun t1=>?_)
   (exfalso; omega)
   rotate_left
   refine loop_u (fun k:Nat=>[(8,.sl 4 (prs ((lo.take k).map (redp ((strs m.ns).length:Int)))).length),(42,.d (.int .i64 k))]) (fun k=>[(4,.row 76 2 (prs ((lo.take k).map (redp ((strs m.ns).length:Int)))) false)]) (fun k=>k≤lo.length) (fun k=>lo.length - k) 0 rfl (Nat.zero_le _) ?_
   intro k hk
   have hk:k≤lo.length:=hk
   have hlt:(prs ((lo.take k).map (redp ((strs m.ns).length:Int)))).length=k:=by rw [prs_len,List.length_map,List.length_take]; omega
   dsimp only
   by_cases hkl:k < lo.length
   ·refine Exists.elim (get_lt lo hkl) fun p hp=>?_
    have hx:=u8ps_at hp
    have hpr:=hlp p (List.mem_of_getElem? hp)
    have w1:IntKind.i64.wrap p.1=p.1:=by rw [IntKind.wrap_i64]; omega
    have w2:IntKind.i64.wrap p.2=p.2:=by rw [IntKind.wrap_i64]; omega
    have e:prs ((lo.take (k+1)).map (redp ((strs m.ns).length:Int)))=prs ((lo.take k).map (redp ((strs m.ns).length:Int)))++[.agg [.int .i64 (IntKind.i64.wrap p.1 % ((strs m.ns).length:Int)),.int .i64 (IntKind.i64.wrap p.2 % ((strs m.ns).length:Int))]]:=by
     rw [take_map_succ _ hp]; unfold prs; rw [List.map_append]; rfl
    refine sd ?_
    refine b_lt (fun t2=>?_) (fun t2=>?_)
    refine ix_at hx ?_ ?_
    (show (0:Int)≤(↑k:Int); omega)
    refine an ?_ ?_
    refine an ?_ ?_
    (show (0:Int)≤(0:Int); omega)
    (show (0:Int) < (↑(2:Nat):Int); omega)
    refine ca rfl ?_
    refine ar_rem ?_ ?_
    refine an ?_ ?_
    (show (0:Int)≤IntKind.wrap IntKind.i64 (Prod.fst p); omega)
    assumption
    refine an ?_ ?_
    refine an ?_ ?_
    (show (0:Int)≤(1:Int); omega)
    (show (1:Int) < (↑(2:Nat):Int); omega)
    refine ca rfl ?_
    refine ar_rem ?_ ?_
    refine an ?_ ?_
    (show (0:Int)≤IntKind.wrap IntKind.i64 (Prod.snd p); omega)
    assumption
    refine sd ?_
    refine sd ?_
    refine sd ?_
    refine an ?_ ?_
    refine an ?_ ?_
    exact rfl
    refine an ?_ ?_
    exact rfl
    refine an ?_ ?_
    exact rfl
    refine an ?_ ?_
    (show (List.length (prs (List.map (redp (↑(List.length (strs (Ms.ns m))):Int)) (List.take k lo)))+(1:Nat)) * (16:Nat)≤(2:Nat) ^ (47:Nat); omega)
    (show List.length (prs (List.map (redp (↑(List.length (strs (Ms.ns m))):Int)) (List.take k lo)))+(1:Nat)≤(2:Nat) ^ (47:Nat); omega)
    refine ar_add ?_ ?_
    refine an ?_ ?_
    (show (-9223372036854775808:Int)≤(↑k:Int)+(1:Int); omega)
    (show (↑k:Int)+(1:Int)≤(9223372036854775807:Int); omega)
    rotate_left
    (exfalso; omega)
    refine ⟨k+1,⟨by show k+1≤lo.length; omega,by show lo.length - (k+1) < lo.length - k; omega⟩,?_⟩
    rw [e]; rfl
   ·have ek:lo.take k=lo:=List.take_of_length_le (by omega)
    rw [ek]
    generalize hlq:lo.map (redp ((strs m.ns).length:Int))=lost
    have hlql:lost.length=lo.length:=by rw [← hlq]; exact List.length_map _
    have hpe:pairsE m lost=0:=by
     unfold pairsE
     rw [decide_eq_false (by omega)]
     show firstOf (lost.map (pairE m))=0
     refine first_all _ (fun x hx=>?_)
     obtain ⟨p,hp,rfl⟩:=List.mem_map.1 hx
     rw [← hlq] at hp
     obtain ⟨q,hq,rfl⟩:=List.mem_map.1 hp
     exact pair_red hpos (by omega) q
    have w0:IntKind.i64.wrap st=st:=by rw [IntKind.wrap_i64]; omega
    have c31_:CallDet Tryz.prog 31 [.d m.d,.d (.int .i64 (IntKind.i64.wrap st % ((strs m.ns).length:Int)))] [(m.begun (IntKind.i64.wrap st % ((strs m.ns).length:Int))).d,.int .i64 0]:=by
     have h1:=c31 m (IntKind.i64.wrap st % ((strs m.ns).length:Int)) hm hl
     have e0:0≤IntKind.i64.wrap st % ((strs m.ns).length:Int):=Int.emod_nonneg _ hn0
     have e1:=Int.emod_lt_of_pos (IntKind.i64.wrap st) hpos
     have e:nodeD m (IntKind.i64.wrap st % ((strs m.ns).length:Int))=0:=by
      unfold nodeD
      rw [first_0 hchk,first_o]
      unfold Ms.nodeE outN
      rw [decide_eq_false (by omega),decide_eq_false (by omega)]; rfl
     rw [e] at h1; exact h1
    have hbl:(m.begun (IntKind.i64.wrap st % ((strs m.ns).length:Int))).es.length=m.ns.length:=by unfold Ms.begun; show (List.set _ _ _).length=_; rw [List.length_set,List.length_replicate]
    have hst0:0≤IntKind.i64.wrap st % ((strs m.ns).length:Int):=Int.emod_nonneg _ hn0
    have hst1:=Int.emod_lt_of_pos (IntKind.i64.wrap st) hpos
    have hbg:Good m (m.begun (IntKind.i64.wrap st % ((strs m.ns).length:Int))):=Good.begun hchk hst0 (by omega)
    have hel:=ens_len (m.begun (IntKind.i64.wrap st % ((strs m.ns).length:Int))).es
    refine sd ?_
    refine b_lt (fun t2=>?_) (fun t2=>?_)
    (exfalso; omega)
    refine ca (c18 m (by omega) (by omega)) ?_
    refine ca rfl ?_
    refine ar_rem ?_ ?_
    refine an ?_ ?_
    (show (0:Int)≤IntKind.wrap IntKind.i64 st; omega)
    assumption
    refine ca c31_ ?_
    refine sd ?_
    refine sd ?_
    refine b_ne (fun t3=>?_) (fun t3=>?_)
    (exfalso; omega)
    rotate_left
    conv=>whnf
    rw [Nat.beq_refl]
    rotate_left
    refine loop_u (fun q:Nat × Ms × Sts=>[(83,.d (.int .i64 q.1))]) (fun q=>[(5,.box [.d (.int .i64 q.2.2.co),.d (.int .i64 q.2.2.nu),.d (.slice 3 (ens q.2.2.es))]),(6,.box [.d (.slice 1 (strs q.2.1.ns)),.d (.slice 3 (lks q.2.1.ls))])]) (fun q=>(q.1≤8∧Good q.2.1 q.2.2)∧(q.2.1.ns=m.ns∧q.2.2.nu≤(q.1:Int)+1)) (fun q=>8 - q.1) (0,m,m.begun (IntKind.i64.wrap st % ((strs m.ns).length:Int))) rfl ⟨⟨Nat.zero_le _,hbg⟩,rfl,by show (1:Int)≤_; omega⟩ ?_
    rintro ⟨k,m1,s1⟩ ⟨⟨hk8,g1⟩,hns,hnu⟩
    have hk8:k≤8:=hk8
    have g1:Good m1 s1:=g1
    have hns:m1.ns=m.ns:=hns
    have hnu:s1.nu≤(k:Int)+1:=hnu
    dsimp only
    have h01:m.ns.length=m1.ns.length:=by rw [hns]
    have hpe1:pairsE m1 lost=0:=by
     have e:pairsE m1 lost=pairsE m lost:=by
      unfold pairsE pairE Ms.nodeE; rw [hns]
     rw [e]; exact hpe
    by_cases hkl:k < 8
    ·have hk7:k=0∨k=1∨k=2∨k=3∨k=4∨k=5∨k=6∨k=7:=by omega
     rcases hk7 with rfl | rfl | rfl | rfl | rfl | rfl | rfl | rfl
     ·refine sd ?_
      refine an ?_ ?_
      refine an ?_ ?_
      (show (0:Int)≤(↑(0:Nat):Int); omega)
      (show (↑(0:Nat):Int) < (↑(8:Nat):Int); omega)
      rotate_left
      refine v8b g1 (by omega) h01 (hc q0 (by simp)).1 (hc q1 (by simp)) (hc q2 (by simp)) (by omega) hpe1 (fun m2 t g2 hm2 ht=>?_)
      refine ar_add ?_ ?_
      refine an ?_ ?_
      (show (-9223372036854775808:Int)≤(↑(0:Nat):Int)+(1:Int); omega)
      (show (↑(0:Nat):Int)+(1:Int)≤(9223372036854775807:Int); omega)
      rotate_left
      exact ⟨(1,m2,t),⟨⟨⟨by show 1≤8; decide,g2⟩,hm2.trans hns,by show t.nu≤(1:Int)+1; omega⟩,by show 8 - 1 < 8 - 0; decide⟩,rfl⟩
     ·refine sd ?_
      refine an ?_ ?_
      refine an ?_ ?_
      (show (0:Int)≤(↑(1:Nat):Int); omega)
      (show (↑(1:Nat):Int) < (↑(8:Nat):Int); omega)
      rotate_left
      refine v8b g1 (by omega) h01 (hc q3 (by simp)).1 (hc q4 (by simp)) (hc q5 (by simp)) (by omega) hpe1 (fun m2 t g2 hm2 ht=>?_)
      refine ar_add ?_ ?_
      refine an ?_ ?_
      (show (-9223372036854775808:Int)≤(↑(1:Nat):Int)+(1:Int); omega)
      (show (↑(1:Nat):Int)+(1:Int)≤(9223372036854775807:Int); omega)
      rotate_left
      exact ⟨(2,m2,t),⟨⟨⟨by show 2≤8; decide,g2⟩,hm2.trans hns,by show t.nu≤(2:Int)+1; omega⟩,by show 8 - 2 < 8 - 1; decide⟩,rfl⟩
     ·refine sd ?_
      refine an ?_ ?_
      refine an ?_ ?_
      (show (0:Int)≤(↑(2:Nat):Int); omega)
      (show (↑(2:Nat):Int) < (↑(8:Nat):Int); omega)
      rotate_left
      refine v8b g1 (by omega) h01 (hc q6 (by simp)).1 (hc q7 (by simp)) (hc q8 (by simp)) (by omega) hpe1 (fun m2 t g2 hm2 ht=>?_)
      refine ar_add ?_ ?_
      refine an ?_ ?_
      (show (-9223372036854775808:Int)≤(↑(2:Nat):Int)+(1:Int); omega)
      (show (↑(2:Nat):Int)+(1:Int)≤(9223372036854775807:Int); omega)
      rotate_left
      exact ⟨(3,m2,t),⟨⟨⟨by show 3≤8; decide,g2⟩,hm2.trans hns,by show t.nu≤(3:Int)+1; omega⟩,by show 8 - 3 < 8 - 2; decide⟩,rfl⟩
     ·refine sd ?_
      refine an ?_ ?_
      refine an ?_ ?_
      (show (0:Int)≤(↑(3:Nat):Int); omega)
      (show (↑(3:Nat):Int) < (↑(8:Nat):Int); omega)
      rotate_left
      refine v8b g1 (by omega) h01 (hc q9 (by simp)).1 (hc q10 (by simp)) (hc q11 (by simp)) (by omega) hpe1 (fun m2 t g2 hm2 ht=>?_)
      refine ar_add ?_ ?_
      refine an ?_ ?_
      (show (-9223372036854775808:Int)≤(↑(3:Nat):Int)+(1:Int); omega)
      (show (↑(3:Nat):Int)+(1:Int)≤(9223372036854775807:Int); omega)
      rotate_left
      exact ⟨(4,m2,t),⟨⟨⟨by show 4≤8; decide,g2⟩,hm2.trans hns,by show t.nu≤(4:Int)+1; omega⟩,by show 8 - 4 < 8 - 3; decide⟩,rfl⟩
     ·refine sd ?_
      refine an ?_ ?_
      refine an ?_ ?_
      (show (0:Int)≤(↑(4:Nat):Int); omega)
      (show (↑(4:Nat):Int) < (↑(8:Nat):Int); omega)
      rotate_left
      refine v8b g1 (by omega) h01 (hc q12 (by simp)).1 (hc q13 (by simp)) (hc q14 (by simp)) (by omega) hpe1 (fun m2 t g2 hm2 ht=>?_)
      refine ar_add ?_ ?_
      refine an ?_ ?_
      (show (-9223372036854775808:Int)≤(↑(4:Nat):Int)+(1:Int); omega)
      (show (↑(4:Nat):Int)+(1:Int)≤(9223372036854775807:Int); omega)
      rotate_left
      exact ⟨(5,m2,t),⟨⟨⟨by show 5≤8; decide,g2⟩,hm2.trans hns,by show t.nu≤(5:Int)+1; omega⟩,by show 8 - 5 < 8 - 4; decide⟩,rfl⟩
     ·refine sd ?_
      refine an ?_ ?_
      refine an ?_ ?_
      (show (0:Int)≤(↑(5:Nat):Int); omega)
      (show (↑(5:Nat):Int) < (↑(8:Nat):Int); omega)
      rotate_left
      refine v8b g1 (by omega) h01 (hc q15 (by simp)).1 (hc q16 (by simp)) (hc q17 (by simp)) (by omega) hpe1 (fun m2 t g2 hm2 ht=>?_)
      refine ar_add ?_ ?_
      refine an ?_ ?_
      (show (-9223372036854775808:Int)≤(↑(5:Nat):Int)+(1:Int); omega)
      (show (↑(5:Nat):Int)+(1:Int)≤(9223372036854775807:Int); omega)
      rotate_left
      exact ⟨(6,m2,t),⟨⟨⟨by show 6≤8; decide,g2⟩,hm2.trans hns,by show t.nu≤(6:Int)+1; omega⟩,by show 8 - 6 < 8 - 5; decide⟩,rfl⟩
     ·refine sd ?_
      refine an ?_ ?_
      refine an ?_ ?_
      (show (0:Int)≤(↑(6:Nat):Int); omega)
      (show (↑(6:Nat):Int) < (↑(8:Nat):Int); omega)
      rotate_left
      refine v8b g1 (by omega) h01 (hc q18 (by simp)).1 (hc q19 (by simp)) (hc q20 (by simp)) (by omega) hpe1 (fun m2 t g2 hm2 ht=>?_)
      refine ar_add ?_ ?_
      refine an ?_ ?_
      (show (-9223372036854775808:Int)≤(↑(6:Nat):Int)+(1:Int); omega)
      (show (↑(6:Nat):Int)+(1:Int)≤(9223372036854775807:Int); omega)
      rotate_left
      exact ⟨(7,m2,t),⟨⟨⟨by show 7≤8; decide,g2⟩,hm2.trans hns,by show t.nu≤(7:Int)+1; omega⟩,by show 8 - 7 < 8 - 6; decide⟩,rfl⟩
     ·refine sd ?_
      refine an ?_ ?_
      refine an ?_ ?_
      (show (0:Int)≤(↑(7:Nat):Int); omega)
      (show (↑(7:Nat):Int) < (↑(8:Nat):Int); omega)
      rotate_left
      refine v8b g1 (by omega) h01 (hc q21 (by simp)).1 (hc q22 (by simp)) (hc q23 (by simp)) (by omega) hpe1 (fun m2 t g2 hm2 ht=>?_)
      refine ar_add ?_ ?_
      refine an ?_ ?_
      (show (-9223372036854775808:Int)≤(↑(7:Nat):Int)+(1:Int); omega)
      (show (↑(7:Nat):Int)+(1:Int)≤(9223372036854775807:Int); omega)
      rotate_left
      exact ⟨(8,m2,t),⟨⟨⟨by show 8≤8; decide,g2⟩,hm2.trans hns,by show t.nu≤(8:Int)+1; omega⟩,by show 8 - 8 < 8 - 7; decide⟩,rfl⟩
    ·have hk9:k=8:=by omega
     subst hk9
     refine sd ?_
     refine ca c16_ ?_
     exact rfl
  ·refine ca c58_ ?_
   refine sd ?_
   refine b_lt (fun t1=>?_) (fun t1=>?_)
   refine ca c16_ ?_
   exact rfl
   (exfalso; omega)
 ·have hff:fewB m=false:=by simpa using hfw
  have c58_:CallDet Tryz.prog 58 [.d m.d] [.bool false]:=by have h1:=c58 m hm hl; rw [hff] at h1; exact h1
  refine ca c58_ ?_
  refine sd ?_
  refine ca c16_ ?_
  exact rfl
end Vc
namespace Vc
open Go Go.Proofs
theorem u8_fit {r:List CT} {ds:List Data} (h:Fits' (.int .u8::r) ds):∃ (n:Int) (t:List Data),ds=.int .u8 n::t∧(0≤n∧n≤255)∧Fits' r t:=by
 obtain ⟨n,t,rfl,hn,ht⟩:=int_fit h
 refine ⟨n,t,rfl,?_,ht⟩
 simp [Lit.wf] at hn
 have h1:IntKind.u8.min=0:=rfl
 have h2:IntKind.u8.max=255:=rfl
 omega
theorem u8ps_fit:∀ {es:List Data},(∀ e∈es,∃ ds,e=.agg ds∧Fits' [.int .u8,.int .u8] ds)→∃ l:List (Int × Int),es=u8ps l∧∀ p∈l,(0≤p.1∧p.1≤255)∧(0≤p.2∧p.2≤255)
 | [],_=>⟨[],rfl,fun _ h=>by cases h⟩
 | e::r,h=>by
  obtain ⟨ds,rfl,hd⟩:=h e List.mem_cons_self
  obtain ⟨a,t1,rfl,ha,h1⟩:=u8_fit hd
  obtain ⟨b,t2,rfl,hb,h2⟩:=u8_fit h1
  obtain rfl:=fits_nil h2
  obtain ⟨l,rfl,hl⟩:=u8ps_fit (es:=r) fun x hx=>h x (List.mem_cons_of_mem _ hx)
  exact ⟨(a,b)::l,rfl,fun p hp=>by
   rcases List.mem_cons.1 hp with rfl | hp
   ·exact ⟨ha,hb⟩
   ·exact hl p hp⟩
theorem u8pl_fit {r:List CT} {ds:List Data} (h:Fits' (.sl true [.int .u8,.int .u8]::r) ds):∃ (l:List (Int × Int)) (t:List Data),ds=.slice 2 (u8ps l)::t∧(∀ p∈l,(0≤p.1∧p.1≤255)∧(0≤p.2∧p.2≤255))∧Fits' r t:=by
 simp only [Fits'] at h
 obtain ⟨d,t,rfl,hd,ht⟩:=h
 simp only [Fit] at hd
 obtain ⟨es,rfl,he⟩:=hd
 obtain ⟨l,rfl,hl⟩:=u8ps_fit (es:=es) fun e h=>by
  obtain ⟨ds,h1,h2⟩:=he e h
  exact ⟨ds,h1,by simpa only [Fits'] using h2⟩
 exact ⟨l,t,rfl,hl,ht⟩
theorem wgts_u8ps:∀ (l:List (Int × Int)),l.length≤wgts (u8ps l)
 | []=>Nat.zero_le _
 | x::r=>by
  have h:=wgts_u8ps r
  have e:wgts (u8ps (x::r))=(1+(1+0))+wgts (u8ps r):=rfl
  rw [e]; simp only [List.length_cons]; omega
end Vc
