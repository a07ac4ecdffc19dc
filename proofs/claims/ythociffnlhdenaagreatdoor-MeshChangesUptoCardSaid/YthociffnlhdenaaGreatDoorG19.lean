import Derived.Test.YthociffnlhdenaaGreatDoorG12
import Derived.Test.YthociffnlhdenaaGreatDoorG16
import Derived.Test.YthociffnlhdenaaGreatDoorG18
import Derived.Test.YthociffnlhdenaaGreatDoorG17
import Derived.Test.YthociffnlhdenaaGreatDoorG10
import Derived.Test.YthociffnlhdenaaGreatDoorG15
set_option linter.unusedSectionVars false
set_option linter.unusedVariables false
set_option linter.unusedSimpArgs false
set_option maxRecDepth 10000
set_option maxHeartbeats 4000000
namespace Vc
open Go Go.Proofs
def ir111:AFun:=⟨25,3,[.tmp 4],
 (.seq
 (.reg [0] [⟨some 2,.cbx 0 2 (.tmp 0),none⟩,
 ⟨some 4,.mov (.cst (.nils 1)),none⟩])
 (.seq
 (.reg [] [⟨some 5,.mov (.cst (.nils 1)),none⟩])
 (.seq
 (.seq
 (.reg [] [⟨some 8,.ld true 2 (.tmp 2),none⟩,
 ⟨some 9,.mov (.tmp 1),none⟩,
 ⟨some 10,.call 92 [(.tmp 8),(.tmp 9)],none⟩,
 ⟨some 11,.len (.tmp 10),none⟩,
 ⟨some 12,.mov (.cst (.d (.int .i64 0))),none⟩])
 (.post [5] [0,1,2]
 (.block 0
 (.asrow 2 3 1 5
 (.keep [5,10,11,12] [0]
 (.loop
 (.post [5,10,11,12] [1,2]
 (.seq
 (.reg [] [⟨some 13,.cmp .lss (.tmp 12) (.tmp 11),none⟩])
 (.seq
 (.cond (.tmp 13)
 .skip
 (.exit 0))
 (.seq
 (.block 1
 (.seq
 (.reg [] [⟨some 14,.mov (.tmp 12),none⟩,
 ⟨some 15,.ixa 1 (.tmp 10) (.tmp 12),none⟩,
 ⟨some 16,.ld false 1 (.tmp 15),none⟩,
 ⟨some 6,.mov (.tmp 14),none⟩,
 ⟨some 7,.mov (.tmp 16),none⟩])
 (.seq
 (.reg [] [⟨some 17,.mov (.tmp 7),none⟩,
 ⟨some 18,.cmp .geq (.tmp 17) (.cst (.d (.int .i64 0))),none⟩])
 (.cond (.tmp 18)
 (.reg [1,2] [⟨some 19,.mov (.tmp 5),none⟩,
 ⟨some 20,.mov (.tmp 6),none⟩,
 ⟨some 21,.bsl 1 3 1 1 [(.int .i64 0)] [(0,(.tmp 20))],none⟩,
 ⟨some 22,.app 2 3 1 8 (.tmp 19) (.tmp 21),none⟩,
 ⟨some 5,.mov (.tmp 22),none⟩])
 .skip))))
 (.reg [] [⟨some 23,.arith .add .i64 (.tmp 12) (.cst (.d (.int .i64 1))),none⟩,
 ⟨some 12,.mov (.tmp 23),none⟩])))))))))))
 (.seq
 (.reg [] [⟨some 24,.mov (.tmp 5),none⟩,
 ⟨some 4,.mov (.tmp 24),none⟩])
 .ret))))⟩
def ir112:AFun:=⟨17,2,[.tmp 6],
 (.seq
 (.reg [0] [⟨some 3,.cbx 0 2 (.tmp 0),none⟩,
 ⟨some 6,.mov (.cst (.d (.int .i64 0))),none⟩])
 (.seq
 (.regd [1] [⟨some 7,.ld true 2 (.tmp 3),none⟩,
 ⟨some 8,.call 27 [(.tmp 7)],none⟩,
 ⟨some 9,.ld true 2 (.tmp 3),none⟩,
 ⟨some 10,.mov (.tmp 1),none⟩,
 ⟨some 11,.call 87 [(.tmp 9),(.tmp 10)],none⟩,
 ⟨some 12,.ld true 2 (.tmp 3),none⟩,
 ⟨some 13,.mov (.tmp 2),none⟩,
 ⟨some 14,.call 87 [(.tmp 12),(.tmp 13)],none⟩,
 ⟨some 15,.bsl 1 29 1 3 [(.int .i64 0),(.int .i64 0),(.int .i64 0)] [(0,(.tmp 8)),(1,(.tmp 11)),(2,(.tmp 14))],none⟩,
 ⟨some 16,.call 86 [(.tmp 15)],none⟩,
 ⟨some 6,.mov (.tmp 16),none⟩] [(0,2),(1,2),(0,3),(1,3),(2,3),(0,5),(1,5),(2,5),(3,5),(4,5),(0,6),(1,6),(2,6),(3,6),(4,6),(5,6)])
 .ret))⟩
def ir114:AFun:=⟨7,0,[.tmp 3],
 (.seq
 (.reg [] [⟨some 3,.mov (.cst (.d (.bool false))),none⟩])
 (.seq
 (.reg [] [⟨some 4,.ld false 1 (.tmp 1),none⟩,
 ⟨some 5,.mov (.tmp 0),none⟩,
 ⟨some 6,.call 113 [(.tmp 4),(.tmp 5)],none⟩,
 ⟨some 3,.mov (.tmp 6),none⟩])
 .ret))⟩
def ir116:AFun:=⟨13,1,[.tmp 3],
 (.seq
 (.reg [0] [⟨some 2,.cbx 0 3 (.tmp 0),none⟩,
 ⟨some 3,.mov (.cst (.d (.bool false))),none⟩])
 (.seq
 (.regd [] [⟨some 4,.ld false 1 (.tmp 1),none⟩,
 ⟨some 5,.fad 0 (.tmp 2),none⟩,
 ⟨some 6,.ld false 1 (.tmp 5),none⟩,
 ⟨some 7,.callv (.tmp 4) [(.tmp 6)],none⟩,
 ⟨some 8,.ld false 1 (.tmp 1),none⟩,
 ⟨some 9,.fad 1 (.tmp 2),none⟩,
 ⟨some 10,.ld false 1 (.tmp 9),none⟩,
 ⟨some 11,.callv (.tmp 8) [(.tmp 10)],none⟩,
 ⟨some 12,.beq true (.tmp 7) (.tmp 11),none⟩,
 ⟨some 3,.mov (.tmp 12),none⟩] [(0,1),(0,2),(0,4),(1,4),(2,4),(3,4),(0,5),(1,5),(2,5),(3,5),(4,5),(0,6),(1,6),(2,6),(3,6),(4,6)])
 .ret))⟩
def ir47:AFun:=⟨75,5,[.tmp 8],
 (.seq
 (.reg [0,1] [⟨some 4,.cbx 0 2 (.tmp 0),none⟩,
 ⟨some 7,.cbx 1 1 (.tmp 3),none⟩,
 ⟨some 8,.mov (.cst (.d (.int .i64 0))),none⟩])
 (.seq
 (.seq
 (.regd [2] [⟨some 15,.ld true 2 (.tmp 4),none⟩,
 ⟨some 16,.mov (.tmp 1),none⟩,
 ⟨some 17,.mov (.tmp 2),none⟩,
 ⟨some 18,.call 112 [(.tmp 15),(.tmp 16),(.tmp 17)],none⟩,
 ⟨some 19,.ld false 1 (.tmp 7),none⟩,
 ⟨some 20,.len (.tmp 19),none⟩,
 ⟨some 21,.cmp .gtr (.tmp 20) (.cst (.d (.int .i64 32))),none⟩,
 ⟨some 22,.call 89 [(.tmp 21),(.cst (.d (.int .i64 5)))],none⟩,
 ⟨some 23,.bsl 2 29 1 2 [(.int .i64 0),(.int .i64 0)] [(0,(.tmp 18)),(1,(.tmp 22))],none⟩,
 ⟨some 24,.call 86 [(.tmp 23)],none⟩,
 ⟨some 9,.mov (.tmp 24),none⟩] [(0,1),(0,2),(1,2),(0,4),(1,4),(2,4),(3,4),(0,5),(1,5),(2,5),(3,5),(0,6),(1,6),(2,6),(3,6)])
 (.seq
 (.reg [] [⟨some 25,.mov (.tmp 9),none⟩,
 ⟨some 26,.cmp .neq (.tmp 25) (.cst (.d (.int .i64 0))),none⟩])
 (.cond (.tmp 26)
 (.seq
 (.reg [] [⟨some 27,.mov (.tmp 9),none⟩,
 ⟨some 8,.mov (.tmp 27),none⟩])
 .ret)
 .skip)))
 (.seq
 (.seq
 (.reg [] [⟨some 28,.ld false 1 (.tmp 7),none⟩,
 ⟨some 29,.len (.tmp 28),none⟩,
 ⟨some 30,.mov (.cst (.d (.int .i64 0))),none⟩])
 (.post [1,2,4,7] [0,1,2,3]
 (.block 0
 (.keep [1,2,4,7,28,29,30] [0,1,2]
 (.loop
 (.post [1,2,4,7,28,29,30] [3]
 (.seq
 (.reg [] [⟨some 31,.cmp .lss (.tmp 30) (.tmp 29),none⟩])
 (.seq
 (.cond (.tmp 31)
 .skip
 (.exit 0))
 (.seq
 (.block 1
 (.seq
 (.reg [] [⟨some 32,.mov (.tmp 30),none⟩,
 ⟨some 33,.ixa 1 (.tmp 28) (.tmp 30),none⟩,
 ⟨some 34,.ld false 1 (.tmp 33),none⟩,
 ⟨some 10,.mov (.tmp 32),none⟩,
 ⟨some 11,.mov (.tmp 34),none⟩])
 (.seq
 (.reg [3] [⟨some 35,.ld true 2 (.tmp 4),none⟩,
 ⟨some 36,.mov (.tmp 11),none⟩,
 ⟨some 37,.call 87 [(.tmp 35),(.tmp 36)],none⟩,
 ⟨some 38,.mov (.tmp 10),none⟩,
 ⟨some 39,.cmp .gtr (.tmp 38) (.cst (.d (.int .i64 0))),none⟩,
 ⟨some 40,.mov (.tmp 39),none⟩,
 ⟨some 41,.mov (.tmp 11),some (40,true)⟩,
 ⟨some 42,.ld false 1 (.tmp 7),some (40,true)⟩,
 ⟨some 43,.mov (.tmp 10),some (40,true)⟩,
 ⟨some 44,.arith .sub .i64 (.tmp 43) (.cst (.d (.int .i64 1))),some (40,true)⟩,
 ⟨some 45,.maxi (.cst (.d (.int .i64 0))) (.tmp 44),some (40,true)⟩,
 ⟨some 46,.ixa 1 (.tmp 42) (.tmp 45),some (40,true)⟩,
 ⟨some 47,.ld false 1 (.tmp 46),some (40,true)⟩,
 ⟨some 48,.cmp .leq (.tmp 41) (.tmp 47),some (40,true)⟩,
 ⟨some 49,.pick (.tmp 40) (.tmp 48) (.cst (.d (.bool false))),none⟩,
 ⟨some 50,.call 89 [(.tmp 49),(.cst (.d (.int .i64 11)))],none⟩,
 ⟨some 51,.bsl 3 29 1 2 [(.int .i64 0),(.int .i64 0)] [(0,(.tmp 37)),(1,(.tmp 50))],none⟩,
 ⟨some 52,.call 86 [(.tmp 51)],none⟩,
 ⟨some 12,.mov (.tmp 52),none⟩])
 (.seq
 (.reg [] [⟨some 53,.mov (.tmp 12),none⟩,
 ⟨some 54,.cmp .neq (.tmp 53) (.cst (.d (.int .i64 0))),none⟩])
 (.cond (.tmp 54)
 (.seq
 (.reg [] [⟨some 55,.mov (.tmp 12),none⟩,
 ⟨some 8,.mov (.tmp 55),none⟩])
 .ret)
 .skip)))))
 (.reg [] [⟨some 56,.arith .add .i64 (.tmp 30) (.cst (.d (.int .i64 1))),none⟩,
 ⟨some 30,.mov (.tmp 56),none⟩]))))))))))
 (.seq
 (.reg [4] [⟨some 57,.mkf (.func 114) [] [(.tmp 7)],none⟩,
 ⟨some 13,.alloc 4 [.undef],none⟩,
 ⟨none,.st 1 (.tmp 13) (.tmp 57),none⟩])
 (.seq
 (.reg [] [⟨some 58,.fad 1 (.tmp 4),none⟩,
 ⟨some 59,.ld false 1 (.tmp 58),none⟩,
 ⟨some 60,.mkf (.func 116) [] [(.tmp 13)],none⟩,
 ⟨some 61,.call 115 [(.tmp 59),(.tmp 60)],none⟩,
 ⟨some 14,.mov (.tmp 61),none⟩])
 (.seq
 (.reg [] [⟨some 62,.ld false 1 (.tmp 13),none⟩,
 ⟨some 63,.mov (.tmp 1),none⟩,
 ⟨some 64,.callv (.tmp 62) [(.tmp 63)],none⟩,
 ⟨some 65,.not (.tmp 64),none⟩,
 ⟨some 66,.mov (.tmp 65),none⟩,
 ⟨some 67,.ld false 1 (.tmp 13),some (66,false)⟩,
 ⟨some 68,.mov (.tmp 2),some (66,false)⟩,
 ⟨some 69,.callv (.tmp 67) [(.tmp 68)],some (66,false)⟩,
 ⟨some 70,.pick (.tmp 66) (.cst (.d (.bool true))) (.tmp 69),none⟩,
 ⟨some 71,.mov (.tmp 70),none⟩,
 ⟨some 72,.mov (.tmp 14),some (71,false)⟩,
 ⟨some 73,.pick (.tmp 71) (.cst (.d (.bool true))) (.tmp 72),none⟩,
 ⟨some 74,.call 89 [(.tmp 73),(.cst (.d (.int .i64 19)))],none⟩,
 ⟨some 8,.mov (.tmp 74),none⟩])
 .ret))))))⟩
theorem first_1 {a:Int} {l:List Int} (h:¬ a=0):firstOf (a::l)=a:=by rw [firstOf_cons,show (a != 0)=true by rw [bne_iff_ne]; exact h]; rfl
theorem first_0 {a:Int} {l:List Int} (h:a=0):firstOf (a::l)=firstOf l:=by rw [firstOf_cons,h]; rfl
theorem if_0 {v w:Int} (h:v=0):(bif v != 0 then v else w)=w:=by rw [h]; rfl
theorem if_1 {v w:Int} (h:¬ v=0):(bif v != 0 then v else w)=v:=by rw [show (v != 0)=true by rw [bne_iff_ne]; exact h]; rfl
end Vc
set_option maxRecDepth 10000
set_option maxHeartbeats 4000000
namespace Vc
open Go Go.Proofs
def ir118:AFun:=⟨38,5,[.cell 8 4 true],
 (.seq
 (.reg [0,1,2] [⟨some 4,.cbx 0 3 (.tmp 0),none⟩,
 ⟨some 5,.cbx 1 2 (.tmp 1),none⟩,
 ⟨some 8,.alloc 2 [(.d (.int .i64 0)),(.d (.int .i64 0)),(.d (.int .i64 0)),(.d (.bool false))],none⟩])
 (.seq
 (.reg [3] [⟨some 11,.fad 2 (.tmp 4),none⟩,
 ⟨some 12,.ld false 1 (.tmp 11),none⟩,
 ⟨some 13,.mov (.tmp 2),none⟩,
 ⟨some 14,.ixa 3 (.tmp 12) (.tmp 13),none⟩,
 ⟨some 15,.ld true 3 (.tmp 14),none⟩,
 ⟨some 9,.alloc 3 [(.d (.int .i64 0)),(.d (.int .i64 0)),(.d (.int .i64 0))],none⟩,
 ⟨none,.st 3 (.tmp 9) (.tmp 15),none⟩])
 (.seq
 (.seq
 (.reg [] [⟨some 16,.fad 2 (.tmp 9),none⟩,
 ⟨some 17,.ld false 1 (.tmp 16),none⟩,
 ⟨some 18,.cmp .eql (.tmp 17) (.cst (.d (.int .i64 (-1)))),none⟩])
 (.cond (.tmp 18)
 (.seq
 (.reg [] [⟨some 19,.build [(.d (.int .i64 0)),(.d (.int .i64 0)),(.d (.int .i64 0)),(.d (.bool false))] [],none⟩,
 ⟨none,.st 4 (.tmp 8) (.tmp 19),none⟩])
 .ret)
 .skip))
 (.seq
 (.regd [4] [⟨some 20,.fad 0 (.tmp 9),none⟩,
 ⟨some 21,.ld false 1 (.tmp 20),none⟩,
 ⟨some 22,.fad 1 (.tmp 9),none⟩,
 ⟨some 23,.ld false 1 (.tmp 22),none⟩,
 ⟨some 24,.ld true 2 (.tmp 5),none⟩,
 ⟨some 25,.mov (.tmp 2),none⟩,
 ⟨some 26,.mov (.tmp 3),none⟩,
 ⟨some 27,.call 91 [(.tmp 24),(.tmp 25),(.tmp 26)],none⟩,
 ⟨some 28,.arith .add .i64 (.tmp 23) (.tmp 27),none⟩,
 ⟨some 29,.mov (.tmp 2),none⟩,
 ⟨some 30,.build [(.d (.int .i64 0)),(.d (.int .i64 0)),(.d (.int .i64 0))] [(0,1,(.tmp 21)),(1,1,(.tmp 28)),(2,1,(.tmp 29))],none⟩,
 ⟨some 31,.build [(.d (.int .i64 0)),(.d (.int .i64 0)),(.d (.int .i64 0)),(.d (.bool false))] [(0,3,(.tmp 30))],none⟩,
 ⟨some 10,.alloc 4 [(.d (.int .i64 0)),(.d (.int .i64 0)),(.d (.int .i64 0)),(.d (.bool false))],none⟩,
 ⟨none,.st 4 (.tmp 10) (.tmp 31),none⟩] [(0,2),(1,2),(0,3),(1,3),(0,4),(1,4),(2,4),(3,4),(0,5),(1,5),(2,5),(3,5),(4,5),(0,6),(1,6),(2,6),(3,6),(4,6),(5,6),(0,7),(1,7),(2,7),(3,7),(0,8),(1,8),(0,9),(1,9),(2,9),(3,9),(4,9),(5,9),(6,9),(7,9),(8,9),(0,12),(1,12),(2,12),(3,12),(4,12),(5,12),(6,12),(7,12),(8,12),(9,12),(10,12),(11,12)])
 (.seq
 (.reg [] [⟨some 32,.fad 0 (.tmp 10),none⟩,
 ⟨some 33,.fad 1 (.tmp 32),none⟩,
 ⟨some 34,.ld false 1 (.tmp 33),none⟩,
 ⟨some 35,.cmp .leq (.tmp 34) (.cst (.d (.int .i64 3200))),none⟩,
 ⟨some 36,.fad 3 (.tmp 10),none⟩,
 ⟨none,.st 1 (.tmp 36) (.tmp 35),none⟩])
 (.seq
 (.reg [] [⟨some 37,.ld true 4 (.tmp 10),none⟩,
 ⟨none,.st 4 (.tmp 8) (.tmp 37),none⟩])
 .ret))))))⟩
def ir150:AFun:=⟨24,2,[.tmp 4],
 (.seq
 (.reg [0,1] [⟨some 2,.cbx 0 3 (.tmp 0),none⟩,
 ⟨some 3,.cbx 1 3 (.tmp 1),none⟩,
 ⟨some 4,.mov (.cst (.d (.bool false))),none⟩])
 (.seq
 (.reg [] [⟨some 5,.fad 0 (.tmp 2),none⟩,
 ⟨some 6,.ld false 1 (.tmp 5),none⟩,
 ⟨some 7,.fad 0 (.tmp 3),none⟩,
 ⟨some 8,.ld false 1 (.tmp 7),none⟩,
 ⟨some 9,.cmp .gtr (.tmp 6) (.tmp 8),none⟩,
 ⟨some 10,.mov (.tmp 9),none⟩,
 ⟨some 11,.fad 0 (.tmp 2),some (10,false)⟩,
 ⟨some 12,.ld false 1 (.tmp 11),some (10,false)⟩,
 ⟨some 13,.fad 0 (.tmp 3),some (10,false)⟩,
 ⟨some 14,.ld false 1 (.tmp 13),some (10,false)⟩,
 ⟨some 15,.cmp .eql (.tmp 12) (.tmp 14),some (10,false)⟩,
 ⟨some 16,.mov (.tmp 15),some (10,false)⟩,
 ⟨some 17,.fad 1 (.tmp 2),some (16,true)⟩,
 ⟨some 18,.ld false 1 (.tmp 17),some (16,true)⟩,
 ⟨some 19,.fad 1 (.tmp 3),some (16,true)⟩,
 ⟨some 20,.ld false 1 (.tmp 19),some (16,true)⟩,
 ⟨some 21,.cmp .lss (.tmp 18) (.tmp 20),some (16,true)⟩,
 ⟨some 22,.pick (.tmp 16) (.tmp 21) (.cst (.d (.bool false))),some (10,false)⟩,
 ⟨some 23,.pick (.tmp 10) (.cst (.d (.bool true))) (.tmp 22),none⟩,
 ⟨some 4,.mov (.tmp 23),none⟩])
 .ret))⟩
def ir117:AFun:=⟨32,2,[],
 (.seq
 (.reg [0,1] [⟨some 3,.box 0 3 (.tmp 0),none⟩,
 ⟨some 5,.cbx 1 4 (.tmp 2),none⟩])
 (.seq
 (.reg [] [⟨some 6,.mov (.cst (.d (.fn (.func 150) []))),none⟩])
 (.seq
 (.regd [] [⟨some 7,.mov (.tmp 1),none⟩,
 ⟨some 8,.fad 0 (.tmp 3),none⟩,
 ⟨some 9,.ld false 1 (.tmp 8),none⟩,
 ⟨some 10,.cmp .neq (.tmp 7) (.tmp 9),none⟩,
 ⟨some 11,.mov (.tmp 10),none⟩,
 ⟨some 12,.fad 3 (.tmp 5),some (11,true)⟩,
 ⟨some 13,.ld false 1 (.tmp 12),some (11,true)⟩,
 ⟨some 14,.pick (.tmp 11) (.tmp 13) (.cst (.d (.bool false))),none⟩,
 ⟨some 15,.mov (.tmp 14),none⟩,
 ⟨some 16,.mov (.tmp 6),some (15,true)⟩,
 ⟨some 17,.fad 0 (.tmp 5),some (15,true)⟩,
 ⟨some 18,.ld true 3 (.tmp 17),some (15,true)⟩,
 ⟨some 19,.fad 2 (.tmp 3),some (15,true)⟩,
 ⟨some 20,.ld false 1 (.tmp 19),some (15,true)⟩,
 ⟨some 21,.mov (.tmp 1),some (15,true)⟩,
 ⟨some 22,.ixa 3 (.tmp 20) (.tmp 21),some (15,true)⟩,
 ⟨some 23,.ld true 3 (.tmp 22),some (15,true)⟩,
 ⟨some 24,.callv (.tmp 16) [(.tmp 18),(.tmp 23)],some (15,true)⟩,
 ⟨some 25,.pick (.tmp 15) (.tmp 24) (.cst (.d (.bool false))),none⟩] [(0,1),(0,2),(9,10),(9,11),(9,12),(10,12),(11,12),(9,13),(10,13),(11,13),(9,14),(10,14),(11,14),(12,14),(13,14),(9,15),(10,15),(11,15),(9,16),(10,16),(11,16)])
 (.cond (.tmp 25)
 (.reg [] [⟨some 26,.fad 2 (.tmp 3),none⟩,
 ⟨some 27,.ld false 1 (.tmp 26),none⟩,
 ⟨some 28,.mov (.tmp 1),none⟩,
 ⟨some 29,.fad 0 (.tmp 5),none⟩,
 ⟨some 30,.ld true 3 (.tmp 29),none⟩,
 ⟨some 31,.ixa 3 (.tmp 27) (.tmp 28),none⟩,
 ⟨none,.st 3 (.tmp 31) (.tmp 30),none⟩])
 .skip))))⟩
def hrs (co n:Int) (x:En) (is:Bool) (E:List En):List En:=match E[n.toNat]? with
 | some e=>bif !(n==co)&&(is&&x.betB e) then E.set n.toNat x else E
 | none=>E
end Vc
set_option maxRecDepth 10000
set_option maxHeartbeats 4000000
namespace Vc
open Go Go.Proofs
end Vc
set_option maxRecDepth 10000
namespace Vc
open Go Go.Proofs
theorem hit_iff {l:Lk} {a b:Int}:hit l a b=true↔l.a=min a b∧l.b=max a b:=by
 unfold hit; simp
theorem betw_mem:∀ {ls:List Lk} {a b:Int},0 < betw ls a b→∃ l∈ls,l.c=betw ls a b∧l.a=min a b∧l.b=max a b
 | [],a,b,h=>by unfold betw at h; omega
 | x::r,a,b,h=>by
  unfold betw at h ⊢
  cases hh:hit x a b
  ·rw [hh] at h
   obtain ⟨l,hl,h2⟩:=betw_mem (ls:=r) h
   exact ⟨l,List.mem_cons_of_mem _ hl,h2⟩
  ·exact ⟨x,List.mem_cons_self,rfl,hit_iff.1 hh⟩
theorem betw_of:∀ {ls:List Lk} {l:Lk},(∀ k x,ls[k]?=some x→(ls.take k).any (fun o=>sameL o x)=false)→l∈ls→l.a≤l.b→betw ls l.a l.b=l.c
 | x::r,l,h,hl,hab=>by
  unfold betw
  cases hh:hit x l.a l.b
  ·rcases List.mem_cons.1 hl with rfl | hl
   ·have:hit l l.a l.b=true:=hit_iff.2 ⟨by omega,by omega⟩
    rw [this] at hh; cases hh
   ·refine betw_of (fun k y hy=>?_) hl hab
    have:=h (k+1) y hy
    rw [List.take_succ_cons,List.any_cons,Bool.or_eq_false_iff] at this
    exact this.2
  ·rcases List.mem_cons.1 hl with rfl | hl
   ·rfl
   ·exfalso
    obtain ⟨j,hj,e⟩:=List.mem_iff_getElem.1 hl
    have:=h (j+1) l (by rw [List.getElem?_cons_succ]; exact List.getElem?_eq_some_iff.2 ⟨hj,e⟩)
    rw [List.take_succ_cons,List.any_cons,Bool.or_eq_false_iff] at this
    have h2:=hit_iff.1 hh
    have h3:sameL x l=true:=by
     unfold sameL
     rw [show (x.a==l.a)=true by rw [beq_iff_eq]; omega,show (x.b==l.b)=true by rw [beq_iff_eq]; omega]; rfl
    rw [h3] at this; cases this.1
theorem Ms.fine.betw_dir {m:Ms} (h:m.fine) {u v:Nat} {c:Int}:dir m.ls u v c↔c=betw m.ls u v∧0 < c:=by
 constructor
 ·rintro ⟨l,hl,rfl,he⟩
  have hk:=h.link hl
  have e:=betw_of (l:=l) (fun k x hx=>(linkE_zero (h.links k x hx)).2.1) hl (by omega)
  refine ⟨?_,by omega⟩
  rcases he with ⟨rfl,rfl⟩ | ⟨rfl,rfl⟩
  ·rw [show ((l.a.toNat:Nat):Int)=l.a by omega,show ((l.b.toNat:Nat):Int)=l.b by omega,e]
  ·rw [betw_comm,show ((l.a.toNat:Nat):Int)=l.a by omega,show ((l.b.toNat:Nat):Int)=l.b by omega,e]
 ·rintro ⟨rfl,h0⟩
  obtain ⟨l,hl,hc,ha,hb⟩:=betw_mem h0
  refine ⟨l,hl,hc,?_⟩
  omega
theorem nbs_iff (m:Ms) (i x:Int):x∈m.nbs i↔0≤x∧x < (m.ns.length:Int)∧0 < betw m.ls i x:=nbs_mem m i x m.ns.length
theorem round_at (m:Ms) (s:Sts) (lost:List (Int × Int)) {k:Int} (h0:0≤k) (h1:k < (s.es.length:Int)):(s.round m lost).at k=roundE m s lost k:=by
 have e:=rndL_get m s lost s.es.length (i:=k.toNat) (by omega)
 unfold Sts.at Sts.round
 show ((rndL m s lost s.es.length)[k.toNat]?).getD _=_
 rw [e,if_pos (by omega),show ((k.toNat:Nat):Int)=k by omega]; rfl
theorem round_len (m:Ms) (s:Sts) (lost:List (Int × Int)):(s.round m lost).es.length=s.es.length:=rndL_len m s lost s.es.length
theorem round_step {m:Ms} {s:Sts} (g:Good m s) (lost:List (Int × Int)) {k:Int} (h0:0≤k) (h1:k < (m.ns.length:Int)):(s.round m lost).at k=s.at k∨(k≠s.co∧∃ u:Int,0≤u∧u < (m.ns.length:Int)∧(s.at u).ne≠-1∧0 < betw m.ls u k∧(s.at u).di+betw m.ls u k≤3200∧(s.round m lost).at k=ofE m s u k∧((s.round m lost).at k).bet (s.at k)):=by
 rw [round_at m s lost h0 (by rw [g.len]; exact h1)]
 rcases (hr_fold m s lost k (m.nbs k) (s.at k)).1 with e | ⟨u,hu,hb,e⟩
 ·exact .inl e
 ·right
  have hn:=(nbs_iff m k u).1 hu
  unfold hrB ofB at hb
  simp only [Bool.and_eq_true,Bool.not_eq_true',beq_eq_false_iff_ne,decide_eq_true_eq] at hb
  refine ⟨hb.1,u,hn.1,hn.2.1,hb.2.1.1,by rw [betw_comm]; exact hn.2.2,hb.2.1.2,e,?_⟩
  show (roundE m s lost k).bet _
  unfold roundE
  rw [e]; exact betB_iff.1 hb.2.2.2
theorem round_best {m:Ms} {s:Sts} (g:Good m s) (lost:List (Int × Int)) {k u:Int} (h0:0≤k) (h1:k < (m.ns.length:Int)) (hk:k≠s.co) (hu:0≤u∧u < (m.ns.length:Int)) (hn:(s.at u).ne≠-1) (hb:0 < betw m.ls u k) (hd:(s.at u).di+betw m.ls u k≤3200) (hl:lostB lost k u=false):¬ (ofE m s u k).bet ((s.round m lost).at k):=by
 rw [round_at m s lost h0 (by rw [g.len]; exact h1)]
 have h:=(hr_fold m s lost k (m.nbs k) (s.at k)).2.1 u ((nbs_iff m k u).2 ⟨hu.1,hu.2,by rw [betw_comm]; exact hb⟩)
 intro hbet
 have e:hrB m s lost k u (roundE m s lost k)=true:=by
  unfold hrB ofB
  simp only [Bool.and_eq_true,Bool.not_eq_true',beq_eq_false_iff_ne,decide_eq_true_eq]
  exact ⟨hk,⟨hn,hd⟩,hl,betB_iff.2 hbet⟩
 unfold roundE at e
 rw [h] at e; cases e
theorem Good.round {m:Ms} {s:Sts} (g:Good m s) (lost:List (Int × Int)):Good m (s.round m lost) :=
 g.hears rfl rfl (round_len m s lost) fun _ h0 h1=>round_step g lost h0 h1
def Sts.rounds (m:Ms) (s:Sts):Nat→Sts
 | 0=>s
 | k+1=>(Sts.rounds m s k).round m []
theorem Good.rounds {m:Ms} {s:Sts} (g:Good m s):∀ k,Good m (s.rounds m k)
 | 0=>g
 | k+1=>(Good.rounds g k).round []
theorem rounds_co (m:Ms) (s:Sts):∀ k,(s.rounds m k).co=s.co
 | 0=>rfl
 | k+1=>rounds_co m s k
theorem rounds_len (m:Ms) (s:Sts):∀ k,(s.rounds m k).es.length=s.es.length
 | 0=>rfl
 | k+1=>(round_len m _ _).trans (rounds_len m s k)
theorem sts_ext {s t:Sts} (hc:s.co=t.co) (hn:s.nu=t.nu) (hl:s.es.length=t.es.length) (h:∀ v:Nat,v < s.es.length→s.at v=t.at v):s=t:=by
 have e:s.es=t.es:=by
  apply List.ext_getElem?
  intro i
  by_cases hi:i < s.es.length
  ·rw [Sts.at_get hi,Sts.at_get (by omega),h i hi]
  ·rw [List.getElem?_eq_none (by omega),List.getElem?_eq_none (by omega)]
 cases s; cases t
 simp only at hc hn e
 subst hc; subst hn; subst e; rfl
theorem Good.waves {m:Ms} {s:Sts} (g:Good m s):Waves m.ns.length (fun u v c=>v≠s.co.toNat∧dir m.ls u v c) (fun k v=>(s.rounds m k).at v) where
 step:=fun k v hv=>by
  have gk:=g.rounds k
  rcases round_step gk [] (k:=(v:Int)) (by omega) (by omega) with e | ⟨h1,u,h2,h3,h4,h5,h6,h7,h8⟩
  ·exact .inl e
  ·right
   have hco:=g.co
   rw [rounds_co] at h1
   refine ⟨u.toNat,betw m.ls u v,by omega,⟨by omega,(chk_fine g.chk).betw_dir.2 ⟨by rw [show ((u.toNat:Nat):Int)=u by omega],h5⟩⟩,?_,?_,?_,h8⟩
   ·rw [show ((u.toNat:Nat):Int)=u by omega]; exact h4
   ·rw [show ((u.toNat:Nat):Int)=u by omega]; exact h6
   ·show ((s.rounds m k).round m []).at v=_
    rw [h7,show ((u.toNat:Nat):Int)=u by omega]; rfl
 best:=fun k v u c hv hu ho hn hc=>by
  have gk:=g.rounds k
  have hd:=(chk_fine g.chk).betw_dir.1 ho.2
  have hco:=g.co
  have:=round_best gk [] (k:=(v:Int)) (u:=(u:Int)) (by omega) (by omega) (by rw [rounds_co]; have:=ho.1; omega) ⟨by omega,by omega⟩ hn (by omega) (by rw [← hd.1]; exact hc) rfl
  rw [hd.1]
  exact this
 cost:=fun u v c ho=>by have:=((chk_fine g.chk).betw_dir.1 ho.2).2; omega
theorem Good.rest {m:Ms} {s:Sts} (g:Good m s) {k:Nat} (hk:m.ns.length≤k+1):s.rounds m (k+1)=s.rounds m k:=by
 have gl:=g.len
 refine sts_ext rfl rfl (round_len m _ _) fun v hv=>?_
 rw [rounds_len,gl] at hv
 exact g.waves.rest k v hv hk
instance : DecidableEq En := fun _ _ => decidable_of_iff _ En.same_iff
def restK (m:Ms) (s:Sts):Nat→Nat→Nat
 | 0,k=>k
 | f+1,k=>if (s.rounds m (k+1)).es=(s.rounds m k).es then k else restK m s f (k+1)
def Sts.K (m:Ms) (s:Sts):Nat:=restK m s m.ns.length 0
end Vc
set_option maxRecDepth 10000
set_option maxHeartbeats 4000000
namespace Vc
open Go Go.Proofs
def ir120:AFun:=⟨26,0,[.tmp 4],
 (.seq
 (.reg [] [⟨some 4,.mov (.cst (.d (.bool false))),none⟩])
 (.seq
 (.seq
 (.reg [] [⟨some 6,.mov (.tmp 0),none⟩,
 ⟨some 7,.len (.tmp 6),none⟩,
 ⟨some 8,.mov (.tmp 1),none⟩,
 ⟨some 9,.len (.tmp 8),none⟩,
 ⟨some 10,.cmp .neq (.tmp 7) (.tmp 9),none⟩])
 (.cond (.tmp 10)
 (.seq
 (.reg [] [⟨some 4,.mov (.cst (.d (.bool false))),none⟩])
 .ret)
 .skip))
 (.seq
 (.seq
 (.reg [] [⟨some 11,.mov (.tmp 0),none⟩,
 ⟨some 12,.len (.tmp 11),none⟩,
 ⟨some 13,.mov (.cst (.d (.int .i64 0))),none⟩])
 (.post [] []
 (.block 0
 (.keep [0,1,12,13] []
 (.loop
 (.post [0,1,12,13] []
 (.seq
 (.reg [] [⟨some 14,.cmp .lss (.tmp 13) (.tmp 12),none⟩])
 (.seq
 (.cond (.tmp 14)
 .skip
 (.exit 0))
 (.seq
 (.block 1
 (.seq
 (.reg [] [⟨some 15,.mov (.tmp 13),none⟩,
 ⟨some 5,.mov (.tmp 15),none⟩])
 (.seq
 (.regd [] [⟨some 16,.mov (.tmp 0),none⟩,
 ⟨some 17,.mov (.tmp 5),none⟩,
 ⟨some 18,.ixa 3 (.tmp 16) (.tmp 17),none⟩,
 ⟨some 19,.ld true 3 (.tmp 18),none⟩,
 ⟨some 20,.mov (.tmp 1),none⟩,
 ⟨some 21,.mov (.tmp 5),none⟩,
 ⟨some 22,.ixa 3 (.tmp 20) (.tmp 21),none⟩,
 ⟨some 23,.ld true 3 (.tmp 22),none⟩,
 ⟨some 24,.aeq true [0,0,0] (.tmp 19) (.tmp 23),none⟩] [(0,1),(0,4),(1,4),(2,4),(3,4),(0,5),(1,5),(2,5),(3,5),(4,5),(0,6),(1,6),(2,6),(3,6),(0,7),(1,7),(2,7),(3,7)])
 (.cond (.tmp 24)
 (.seq
 (.reg [] [⟨some 4,.mov (.cst (.d (.bool false))),none⟩])
 .ret)
 .skip))))
 (.reg [] [⟨some 25,.arith .add .i64 (.tmp 13) (.cst (.d (.int .i64 1))),none⟩,
 ⟨some 13,.mov (.tmp 25),none⟩]))))))))))
 (.seq
 (.reg [] [⟨some 4,.mov (.cst (.d (.bool true))),none⟩])
 .ret))))⟩
def ir53:AFun:=⟨25,4,[.cell 6 3 true,.tmp 7],
 (.seq
 (.reg [0,1,2] [⟨some 3,.cbx 0 2 (.tmp 0),none⟩,
 ⟨some 4,.cbx 1 3 (.tmp 1),none⟩,
 ⟨some 6,.alloc 2 [(.d (.int .i64 0)),(.d (.int .i64 0)),(.nils 3)],none⟩,
 ⟨some 7,.mov (.cst (.d (.int .i64 0))),none⟩])
 (.seq
 (.seq
 (.regd [3] [⟨some 9,.ld true 2 (.tmp 3),none⟩,
 ⟨some 10,.ld true 3 (.tmp 4),none⟩,
 ⟨some 11,.call 37 [(.tmp 9),(.tmp 10)],none⟩,
 ⟨some 12,.ld true 2 (.tmp 3),none⟩,
 ⟨some 13,.mov (.tmp 2),none⟩,
 ⟨some 14,.call 107 [(.tmp 12),(.tmp 13)],none⟩,
 ⟨some 15,.bsl 3 29 1 2 [(.int .i64 0),(.int .i64 0)] [(0,(.tmp 11)),(1,(.tmp 14))],none⟩,
 ⟨some 16,.call 86 [(.tmp 15)],none⟩,
 ⟨some 8,.mov (.tmp 16),none⟩] [(0,1),(0,3),(1,3),(2,3),(0,4),(1,4),(2,4),(3,4)])
 (.seq
 (.reg [] [⟨some 17,.mov (.tmp 8),none⟩,
 ⟨some 18,.cmp .neq (.tmp 17) (.cst (.d (.int .i64 0))),none⟩])
 (.cond (.tmp 18)
 (.seq
 (.reg [] [⟨some 19,.build [(.d (.int .i64 0)),(.d (.int .i64 0)),(.nils 3)] [],none⟩,
 ⟨some 20,.mov (.tmp 8),none⟩,
 ⟨none,.st 3 (.tmp 6) (.tmp 19),none⟩,
 ⟨some 7,.mov (.tmp 20),none⟩])
 .ret)
 .skip)))
 (.seq
 (.reg [] [⟨some 21,.ld true 3 (.tmp 4),none⟩,
 ⟨some 22,.ld true 2 (.tmp 3),none⟩,
 ⟨some 23,.mov (.tmp 2),none⟩,
 ⟨some 24,.call 119 [(.tmp 21),(.tmp 22),(.tmp 23)],none⟩,
 ⟨none,.st 3 (.tmp 6) (.tmp 24),none⟩,
 ⟨some 7,.mov (.cst (.d (.int .i64 0))),none⟩])
 .ret)))⟩
theorem zb {α:Type} {e b:Int} {z x w:α} (h:e=b) (h2:b=0→x=w):(bif e != 0 then z else x)=bif b != 0 then z else w:=by
 subst h
 by_cases h:e=0
 ·rw [h2 h]
 ·rw [show (e != 0)=true by rw [bne_iff_ne]; exact h]; rfl
theorem if_lenE {e:Int} {x:Sts} {n:Nat} (h:x.es.length≤n):(bif e != 0 then Sts.zero else x).es.length≤n:=by
 cases (e != 0)
 ·exact h
 ·exact Nat.zero_le _
end Vc
set_option maxRecDepth 10000
set_option maxHeartbeats 4000000
namespace Vc
open Go Go.Proofs
def ir151:AFun:=⟨22,3,[.tmp 4],
 (.seq
 (.reg [] [⟨some 4,.mov (.cst (.nils 1)),none⟩])
 (.seq
 (.reg [] [⟨some 5,.mov (.cst (.nils 1)),none⟩])
 (.seq
 (.seq
 (.reg [] [⟨some 8,.mov (.tmp 0),none⟩,
 ⟨some 9,.len (.tmp 8),none⟩,
 ⟨some 10,.mov (.cst (.d (.int .i64 0))),none⟩])
 (.post [5] [0,1,2]
 (.block 0
 (.asrow 2 3 1 5
 (.keep [1,5,8,9,10] []
 (.loop
 (.post [1,5,8,9,10] [0,1,2]
 (.seq
 (.reg [] [⟨some 11,.cmp .lss (.tmp 10) (.tmp 9),none⟩])
 (.seq
 (.cond (.tmp 11)
 .skip
 (.exit 0))
 (.seq
 (.block 1
 (.seq
 (.reg [0] [⟨some 12,.ixa 3 (.tmp 8) (.tmp 10),none⟩,
 ⟨some 13,.ld true 3 (.tmp 12),none⟩,
 ⟨some 7,.alloc 0 [(.d (.int .i64 0)),(.d (.int .i64 0)),(.d (.int .i64 0))],none⟩,
 ⟨none,.st 3 (.tmp 7) (.tmp 13),none⟩])
 (.reg [1,2] [⟨some 14,.mov (.tmp 5),none⟩,
 ⟨some 15,.mov (.tmp 1),none⟩,
 ⟨some 16,.ld true 3 (.tmp 7),none⟩,
 ⟨some 17,.callv (.tmp 15) [(.tmp 16)],none⟩,
 ⟨some 18,.bsl 1 3 1 1 [(.int .i64 0)] [(0,(.tmp 17))],none⟩,
 ⟨some 19,.app 2 3 1 8 (.tmp 14) (.tmp 18),none⟩,
 ⟨some 5,.mov (.tmp 19),none⟩])))
 (.reg [] [⟨some 20,.arith .add .i64 (.tmp 10) (.cst (.d (.int .i64 1))),none⟩,
 ⟨some 10,.mov (.tmp 20),none⟩])))))))))))
 (.seq
 (.reg [] [⟨some 21,.mov (.tmp 5),none⟩,
 ⟨some 4,.mov (.tmp 21),none⟩])
 .ret))))⟩
def ir152:AFun:=⟨5,1,[.tmp 2],
 (.seq
 (.reg [0] [⟨some 1,.cbx 0 3 (.tmp 0),none⟩,
 ⟨some 2,.mov (.cst (.d (.int .i64 0))),none⟩])
 (.seq
 (.reg [] [⟨some 3,.fad 2 (.tmp 1),none⟩,
 ⟨some 4,.ld false 1 (.tmp 3),none⟩,
 ⟨some 2,.mov (.tmp 4),none⟩])
 .ret))⟩
def ir153:AFun:=⟨5,4,[.tmp 2],
 (.seq
 (.reg [] [⟨some 2,.mov (.cst (.nils 1)),none⟩])
 (.seq
 (.reg [] [⟨some 3,.mov (.tmp 0),none⟩,
 ⟨some 4,.calli 164 [(.cst (.nils 1)),(.tmp 3)],none⟩,
 ⟨some 2,.mov (.tmp 4),none⟩])
 .ret))⟩
def ir154:AFun:=⟨6,2,[.tmp 4],
 (.seq
 (.reg [0,1] [⟨some 2,.cbx 0 1 (.tmp 0),none⟩,
 ⟨some 3,.cbx 1 1 (.tmp 1),none⟩,
 ⟨some 4,.mov (.cst .undef),none⟩])
 (.seq
 (.reg [] [⟨some 5,.mkf (.func 165) [] [(.tmp 3),(.tmp 2)],none⟩,
 ⟨some 4,.mov (.tmp 5),none⟩])
 .ret))⟩
def ir164:AFun:=⟨13,4,[.tmp 4],
 (.seq
 (.reg [0] [⟨some 2,.box 0 1 (.tmp 0),none⟩,
 ⟨some 4,.mov (.cst (.nils 1)),none⟩])
 (.seq
 (.seq
 (.reg [] [⟨some 6,.mov (.tmp 1),none⟩])
 (.block 0
 (.keep [2,6] [0]
 (.rfor 1 (.tmp 6) [7]
 (.reg [] [⟨some 5,.mov (.tmp 7),none⟩])
 (.post [] [2,3]
 (.block 1
 (.reg [2,3] [⟨some 8,.ld false 1 (.tmp 2),none⟩,
 ⟨some 9,.mov (.tmp 5),none⟩,
 ⟨some 10,.bsl 2 3 1 1 [(.int .i64 0)] [(0,(.tmp 9))],none⟩,
 ⟨some 11,.app 3 3 1 8 (.tmp 8) (.tmp 10),none⟩,
 ⟨none,.st 1 (.tmp 2) (.tmp 11),none⟩])))))))
 (.seq
 (.reg [] [⟨some 12,.ld false 1 (.tmp 2),none⟩,
 ⟨some 4,.mov (.tmp 12),none⟩])
 .ret)))⟩
def ir165:AFun:=⟨32,0,[],
 (.seq
 (.reg [] [⟨some 5,.ld false 1 (.tmp 1),none⟩,
 ⟨some 4,.mov (.tmp 5),none⟩])
 (.seq
 (.reg [] [⟨some 6,.ld false 1 (.tmp 2),none⟩,
 ⟨some 7,.len (.tmp 6),none⟩,
 ⟨some 8,.mov (.cst (.d (.int .i64 0))),none⟩])
 (.post [] []
 (.block 0
 (.keep [0,2,4,7,8] []
 (.loop
 (.post [0,2,4,7,8] []
 (.seq
 (.reg [] [⟨some 9,.cmp .lss (.tmp 8) (.tmp 7),none⟩])
 (.seq
 (.cond (.tmp 9)
 .skip
 (.exit 0))
 (.seq
 (.block 1
 (.seq
 (.seq
 (.reg [] [⟨some 10,.mov (.tmp 0),none⟩,
 ⟨some 11,.mov (.tmp 4),none⟩,
 ⟨some 12,.callv (.tmp 10) [(.tmp 11)],none⟩,
 ⟨some 13,.not (.tmp 12),none⟩])
 (.cond (.tmp 13)
 .ret
 .skip))
 (.seq
 (.seq
 (.reg [] [⟨some 14,.ld false 1 (.tmp 2),none⟩,
 ⟨some 15,.mov (.tmp 4),none⟩,
 ⟨some 16,.ixa 1 (.tmp 14) (.tmp 15),none⟩,
 ⟨some 17,.ld false 1 (.tmp 16),none⟩,
 ⟨some 18,.cmp .lss (.tmp 17) (.cst (.d (.int .i64 0))),none⟩,
 ⟨some 19,.mov (.tmp 18),none⟩,
 ⟨some 20,.ld false 1 (.tmp 2),some (19,false)⟩,
 ⟨some 21,.mov (.tmp 4),some (19,false)⟩,
 ⟨some 22,.ixa 1 (.tmp 20) (.tmp 21),some (19,false)⟩,
 ⟨some 23,.ld false 1 (.tmp 22),some (19,false)⟩,
 ⟨some 24,.mov (.tmp 4),some (19,false)⟩,
 ⟨some 25,.cmp .eql (.tmp 23) (.tmp 24),some (19,false)⟩,
 ⟨some 26,.pick (.tmp 19) (.cst (.d (.bool true))) (.tmp 25),none⟩])
 (.cond (.tmp 26)
 .ret
 .skip))
 (.reg [] [⟨some 27,.ld false 1 (.tmp 2),none⟩,
 ⟨some 28,.mov (.tmp 4),none⟩,
 ⟨some 29,.ixa 1 (.tmp 27) (.tmp 28),none⟩,
 ⟨some 30,.ld false 1 (.tmp 29),none⟩,
 ⟨some 4,.mov (.tmp 30),none⟩]))))
 (.reg [] [⟨some 31,.arith .add .i64 (.tmp 8) (.cst (.d (.int .i64 1))),none⟩,
 ⟨some 8,.mov (.tmp 31),none⟩])))))))))))⟩
end Vc
set_option maxRecDepth 10000
set_option maxHeartbeats 4000000
namespace Vc
open Go Go.Proofs
theorem Good.betw_self {m:Ms} {s:Sts} (g:Good m s) (a:Int):betw m.ls a a=0:=by
 rcases Classical.em (0 < betw m.ls a a) with h | h
 ·obtain ⟨l,hl,_,h1,h2⟩:=betw_mem h
  have:=((chk_fine g.chk).link hl).1.2.2
  omega
 ·have:=(chk_fine g.chk).rng a a; omega
theorem Good.nxt {m:Ms} {s:Sts} (g:Good m s) {a:Int} (h0:0≤a) (h1:a < (m.ns.length:Int)) (hc:a≠s.co) (hn:(s.at a).ne≠-1):0≤(s.at a).ne∧(s.at a).ne < (m.ns.length:Int)∧(s.at a).ne≠a∧0 < betw m.ls a (s.at a).ne∧(s.at (s.at a).ne).bet (s.at a):=by
 have r:=g.rng a h0 h1
 have hl:=g.lnk a h0 h1 hc hn
 have hr:=(chk_fine g.chk).rng a (s.at a).ne
 refine ⟨by omega,r.2.2.2,fun e=>?_,by omega,?_⟩
 ·rw [e] at hl; exact hl (g.betw_self a)
 ·have:=g.lead a h0 h1 hc hn
  unfold En.bet; omega
end Vc
set_option maxRecDepth 10000
set_option maxHeartbeats 4000000
namespace Vc
open Go Go.Proofs
def ir128:AFun:=⟨15,7,[.cell 4 2 true],
 (.seq
 (.reg [0,1,2] [⟨some 2,.cbx 0 2 (.tmp 0),none⟩,
 ⟨some 3,.cbx 1 3 (.tmp 1),none⟩,
 ⟨some 4,.alloc 2 [(.nils 1),(.nils 3)],none⟩])
 (.seq
 (.regd [3,4] [⟨some 5,.fad 0 (.tmp 2),none⟩,
 ⟨some 6,.ld false 1 (.tmp 5),none⟩,
 ⟨some 7,.calln 6 9 1 124 [(.tmp 6)],none⟩,
 ⟨some 8,.fad 1 (.tmp 2),none⟩,
 ⟨some 9,.ld false 1 (.tmp 8),none⟩,
 ⟨some 10,.calln 5 117 3 126 [(.tmp 9)],none⟩,
 ⟨some 11,.ld true 3 (.tmp 3),none⟩,
 ⟨some 12,.bsl 3 117 3 1 [(.agg [(.int .i64 0),(.int .i64 0),(.int .i64 0)])] [(0,(.tmp 11))],none⟩,
 ⟨some 13,.app 4 117 3 24 (.tmp 10) (.tmp 12),none⟩,
 ⟨some 14,.build [(.nils 1),(.nils 3)] [(0,1,(.tmp 7)),(1,1,(.tmp 13))],none⟩,
 ⟨none,.st 2 (.tmp 4) (.tmp 14),none⟩] [(0,3),(1,3),(2,3),(0,4),(1,4),(2,4),(0,6),(1,6),(2,6),(3,6),(4,6),(5,6),(0,7),(1,7),(2,7),(3,7),(4,7),(5,7)])
 .ret))⟩
def ir68:AFun:=⟨37,6,[.cell 6 2 true,.cell 7 3 true,.tmp 8],
 (.seq
 (.reg [0,1,2,3,4] [⟨some 3,.cbx 0 2 (.tmp 0),none⟩,
 ⟨some 4,.cbx 1 3 (.tmp 1),none⟩,
 ⟨some 5,.cbx 2 3 (.tmp 2),none⟩,
 ⟨some 6,.alloc 3 [(.nils 1),(.nils 3)],none⟩,
 ⟨some 7,.alloc 4 [(.d (.int .i64 0)),(.d (.int .i64 0)),(.nils 3)],none⟩,
 ⟨some 8,.mov (.cst (.d (.int .i64 0))),none⟩])
 (.seq
 (.seq
 (.regd [5] [⟨some 10,.ld true 2 (.tmp 3),none⟩,
 ⟨some 11,.ld true 3 (.tmp 4),none⟩,
 ⟨some 12,.call 37 [(.tmp 10),(.tmp 11)],none⟩,
 ⟨some 13,.ld true 3 (.tmp 5),none⟩,
 ⟨some 14,.fad 0 (.tmp 3),none⟩,
 ⟨some 15,.ld false 1 (.tmp 14),none⟩,
 ⟨some 16,.len (.tmp 15),none⟩,
 ⟨some 17,.fad 1 (.tmp 3),none⟩,
 ⟨some 18,.ld false 1 (.tmp 17),none⟩,
 ⟨some 19,.call 97 [(.tmp 13),(.tmp 16),(.tmp 18)],none⟩,
 ⟨some 20,.fad 1 (.tmp 3),none⟩,
 ⟨some 21,.ld false 1 (.tmp 20),none⟩,
 ⟨some 22,.len (.tmp 21),none⟩,
 ⟨some 23,.cmp .eql (.tmp 22) (.cst (.d (.int .i64 128))),none⟩,
 ⟨some 24,.call 89 [(.tmp 23),(.cst (.d (.int .i64 5)))],none⟩,
 ⟨some 25,.bsl 5 29 1 3 [(.int .i64 0),(.int .i64 0),(.int .i64 0)] [(0,(.tmp 12)),(1,(.tmp 19)),(2,(.tmp 24))],none⟩,
 ⟨some 26,.call 86 [(.tmp 25)],none⟩,
 ⟨some 9,.mov (.tmp 26),none⟩] [(0,1),(0,3),(1,3),(2,3),(0,4),(1,4),(2,4),(3,4),(0,5),(1,5),(2,5),(3,5),(0,6),(1,6),(2,6),(3,6),(0,7),(1,7),(2,7),(3,7),(4,7),(5,7),(6,7),(0,8),(1,8),(2,8),(3,8),(4,8),(5,8),(6,8),(0,10),(1,10),(2,10),(3,10),(4,10),(5,10),(6,10),(7,10),(8,10),(9,10),(0,11),(1,11),(2,11),(3,11),(4,11),(5,11),(6,11),(7,11),(8,11),(9,11),(0,12),(1,12),(2,12),(3,12),(4,12),(5,12),(6,12),(7,12),(8,12),(9,12),(0,13),(1,13),(2,13),(3,13),(4,13),(5,13),(6,13),(7,13),(8,13),(9,13)])
 (.seq
 (.reg [] [⟨some 27,.mov (.tmp 9),none⟩,
 ⟨some 28,.cmp .neq (.tmp 27) (.cst (.d (.int .i64 0))),none⟩])
 (.cond (.tmp 28)
 (.seq
 (.reg [] [⟨some 29,.build [(.nils 1),(.nils 3)] [],none⟩,
 ⟨some 30,.build [(.d (.int .i64 0)),(.d (.int .i64 0)),(.nils 3)] [],none⟩,
 ⟨some 31,.mov (.tmp 9),none⟩,
 ⟨none,.st 2 (.tmp 6) (.tmp 29),none⟩,
 ⟨none,.st 3 (.tmp 7) (.tmp 30),none⟩,
 ⟨some 8,.mov (.tmp 31),none⟩])
 .ret)
 .skip)))
 (.seq
 (.regd [] [⟨some 32,.ld true 2 (.tmp 3),none⟩,
 ⟨some 33,.ld true 3 (.tmp 5),none⟩,
 ⟨some 34,.call 128 [(.tmp 32),(.tmp 33)],none⟩,
 ⟨some 35,.ld true 3 (.tmp 4),none⟩,
 ⟨some 36,.call 99 [(.tmp 35)],none⟩,
 ⟨none,.st 2 (.tmp 6) (.tmp 34),none⟩,
 ⟨none,.st 3 (.tmp 7) (.tmp 36),none⟩,
 ⟨some 8,.mov (.cst (.d (.int .i64 0))),none⟩] [(0,1),(0,3),(1,3),(2,3)])
 .ret)))⟩
def ir71:AFun:=⟨76,21,[.cell 10 2 true,.cell 11 3 true,.tmp 12],
 (.seq
 (.reg [0,1,2,3] [⟨some 5,.cbx 0 2 (.tmp 0),none⟩,
 ⟨some 6,.cbx 1 3 (.tmp 1),none⟩,
 ⟨some 10,.alloc 2 [(.nils 1),(.nils 3)],none⟩,
 ⟨some 11,.alloc 3 [(.d (.int .i64 0)),(.d (.int .i64 0)),(.nils 3)],none⟩,
 ⟨some 12,.mov (.cst (.d (.int .i64 0))),none⟩])
 (.seq
 (.seq
 (.regd [4] [⟨some 17,.ld true 2 (.tmp 5),none⟩,
 ⟨some 18,.ld true 3 (.tmp 6),none⟩,
 ⟨some 19,.call 37 [(.tmp 17),(.tmp 18)],none⟩,
 ⟨some 20,.mov (.tmp 2),none⟩,
 ⟨some 21,.call 96 [(.tmp 20)],none⟩,
 ⟨some 22,.not (.tmp 21),none⟩,
 ⟨some 23,.call 89 [(.tmp 22),(.cst (.d (.int .i64 8)))],none⟩,
 ⟨some 24,.fad 0 (.tmp 5),none⟩,
 ⟨some 25,.ld false 1 (.tmp 24),none⟩,
 ⟨some 26,.mov (.tmp 2),none⟩,
 ⟨some 27,.call 129 [(.tmp 25),(.tmp 26)],none⟩,
 ⟨some 28,.call 89 [(.tmp 27),(.cst (.d (.int .i64 9)))],none⟩,
 ⟨some 29,.ld true 2 (.tmp 5),none⟩,
 ⟨some 30,.mov (.tmp 3),none⟩,
 ⟨some 31,.call 87 [(.tmp 29),(.tmp 30)],none⟩,
 ⟨some 32,.mov (.tmp 4),none⟩,
 ⟨some 33,.call 104 [(.tmp 32),(.cst (.d (.int .i64 1))),(.cst (.d (.int .i64 100)))],none⟩,
 ⟨some 34,.bsl 4 29 1 5 [(.int .i64 0),(.int .i64 0),(.int .i64 0),(.int .i64 0),(.int .i64 0)] [(0,(.tmp 19)),(1,(.tmp 23)),(2,(.tmp 28)),(3,(.tmp 31)),(4,(.tmp 33))],none⟩,
 ⟨some 35,.call 86 [(.tmp 34)],none⟩,
 ⟨some 13,.mov (.tmp 35),none⟩] [(0,1),(0,3),(1,3),(2,3),(0,7),(1,7),(2,7),(3,7),(4,7),(5,7),(6,7),(0,8),(1,8),(2,8),(3,8),(4,8),(5,8),(6,8),(0,9),(1,9),(2,9),(3,9),(4,9),(5,9),(6,9),(7,9),(8,9),(0,12),(1,12),(2,12),(3,12),(4,12),(5,12),(6,12),(7,12),(8,12),(9,12),(10,12),(11,12),(0,13),(1,13),(2,13),(3,13),(4,13),(5,13),(6,13),(7,13),(8,13),(9,13),(10,13),(11,13),(12,13),(0,15),(1,15),(2,15),(3,15),(4,15),(5,15),(6,15),(7,15),(8,15),(9,15),(10,15),(11,15),(12,15),(13,15),(14,15)])
 (.seq
 (.reg [] [⟨some 36,.mov (.tmp 13),none⟩,
 ⟨some 37,.cmp .neq (.tmp 36) (.cst (.d (.int .i64 0))),none⟩])
 (.cond (.tmp 37)
 (.seq
 (.reg [] [⟨some 38,.build [(.nils 1),(.nils 3)] [],none⟩,
 ⟨some 39,.build [(.d (.int .i64 0)),(.d (.int .i64 0)),(.nils 3)] [],none⟩,
 ⟨some 40,.mov (.tmp 13),none⟩,
 ⟨none,.st 2 (.tmp 10) (.tmp 38),none⟩,
 ⟨none,.st 3 (.tmp 11) (.tmp 39),none⟩,
 ⟨some 12,.mov (.tmp 40),none⟩])
 .ret)
 .skip)))
 (.seq
 (.reg [] [⟨some 41,.fad 0 (.tmp 5),none⟩,
 ⟨some 42,.ld false 1 (.tmp 41),none⟩,
 ⟨some 43,.len (.tmp 42),none⟩,
 ⟨some 14,.mov (.tmp 43),none⟩])
 (.seq
 (.seq
 (.reg [] [⟨some 44,.mov (.tmp 14),none⟩,
 ⟨some 45,.cmp .eql (.tmp 44) (.cst (.d (.int .i64 32))),none⟩,
 ⟨some 46,.mov (.tmp 45),none⟩,
 ⟨some 47,.fad 1 (.tmp 5),some (46,false)⟩,
 ⟨some 48,.ld false 1 (.tmp 47),some (46,false)⟩,
 ⟨some 49,.len (.tmp 48),some (46,false)⟩,
 ⟨some 50,.cmp .eql (.tmp 49) (.cst (.d (.int .i64 128))),some (46,false)⟩,
 ⟨some 51,.pick (.tmp 46) (.cst (.d (.bool true))) (.tmp 50),none⟩])
 (.cond (.tmp 51)
 (.seq
 (.reg [] [⟨some 52,.build [(.nils 1),(.nils 3)] [],none⟩,
 ⟨some 53,.build [(.d (.int .i64 0)),(.d (.int .i64 0)),(.nils 3)] [],none⟩,
 ⟨none,.st 2 (.tmp 10) (.tmp 52),none⟩,
 ⟨none,.st 3 (.tmp 11) (.tmp 53),none⟩,
 ⟨some 12,.mov (.cst (.d (.int .i64 5))),none⟩])
 .ret)
 .skip))
 (.seq
 (.reg [5] [⟨some 54,.ld true 2 (.tmp 5),none⟩,
 ⟨some 55,.mov (.tmp 3),none⟩,
 ⟨some 56,.mov (.tmp 14),none⟩,
 ⟨some 57,.mov (.tmp 4),none⟩,
 ⟨some 58,.build [(.d (.int .i64 0)),(.d (.int .i64 0)),(.d (.int .i64 0))] [(0,1,(.tmp 55)),(1,1,(.tmp 56)),(2,1,(.tmp 57))],none⟩,
 ⟨some 59,.calli 128 [(.tmp 54),(.tmp 58)],none⟩,
 ⟨some 15,.alloc 5 [(.nils 1),(.nils 3)],none⟩,
 ⟨none,.st 2 (.tmp 15) (.tmp 59),none⟩])
 (.seq
 (.reg [6,7] [⟨some 60,.fad 0 (.tmp 15),none⟩,
 ⟨some 61,.ld false 1 (.tmp 60),none⟩,
 ⟨some 62,.mov (.tmp 2),none⟩,
 ⟨some 63,.bsl 6 9 1 1 [(.str [])] [(0,(.tmp 62))],none⟩,
 ⟨some 64,.app 7 9 1 16 (.tmp 61) (.tmp 63),none⟩,
 ⟨some 65,.fad 0 (.tmp 15),none⟩,
 ⟨none,.st 1 (.tmp 65) (.tmp 64),none⟩])
 (.seq
 (.reg [8] [⟨some 66,.ld true 3 (.tmp 6),none⟩,
 ⟨some 67,.calli 99 [(.tmp 66)],none⟩,
 ⟨some 16,.alloc 8 [(.d (.int .i64 0)),(.d (.int .i64 0)),(.nils 3)],none⟩,
 ⟨none,.st 3 (.tmp 16) (.tmp 67),none⟩])
 (.seq
 (.reg [9,10] [⟨some 68,.fad 2 (.tmp 16),none⟩,
 ⟨some 69,.ld false 1 (.tmp 68),none⟩,
 ⟨some 70,.ld true 3 (.cst (.gp 0 0)),none⟩,
 ⟨some 71,.bsl 9 105 3 1 [(.agg [(.int .i64 0),(.int .i64 0),(.int .i64 0)])] [(0,(.tmp 70))],none⟩,
 ⟨some 72,.app 10 105 3 24 (.tmp 69) (.tmp 71),none⟩,
 ⟨some 73,.fad 2 (.tmp 16),none⟩,
 ⟨none,.st 1 (.tmp 73) (.tmp 72),none⟩])
 (.seq
 (.regd [] [⟨some 74,.ld true 2 (.tmp 15),none⟩,
 ⟨some 75,.ld true 3 (.tmp 16),none⟩,
 ⟨none,.st 2 (.tmp 10) (.tmp 74),none⟩,
 ⟨none,.st 3 (.tmp 11) (.tmp 75),none⟩,
 ⟨some 12,.mov (.cst (.d (.int .i64 0))),none⟩] [(0,1),(1,2)])
 .ret)))))))))⟩
def ir62:AFun:=⟨56,9,[.cell 6 3 true,.tmp 7],
 (.seq
 (.reg [0,1,2] [⟨some 3,.cbx 0 2 (.tmp 0),none⟩,
 ⟨some 4,.cbx 1 3 (.tmp 1),none⟩,
 ⟨some 6,.alloc 2 [(.d (.int .i64 0)),(.d (.int .i64 0)),(.nils 3)],none⟩,
 ⟨some 7,.mov (.cst (.d (.int .i64 0))),none⟩])
 (.seq
 (.seq
 (.regd [3] [⟨some 10,.ld true 2 (.tmp 3),none⟩,
 ⟨some 11,.ld true 3 (.tmp 4),none⟩,
 ⟨some 12,.call 37 [(.tmp 10),(.tmp 11)],none⟩,
 ⟨some 13,.ld true 2 (.tmp 3),none⟩,
 ⟨some 14,.mov (.tmp 2),none⟩,
 ⟨some 15,.call 87 [(.tmp 13),(.tmp 14)],none⟩,
 ⟨some 16,.mov (.tmp 2),none⟩,
 ⟨some 17,.fad 0 (.tmp 4),none⟩,
 ⟨some 18,.ld false 1 (.tmp 17),none⟩,
 ⟨some 19,.cmp .eql (.tmp 16) (.tmp 18),none⟩,
 ⟨some 20,.call 89 [(.tmp 19),(.cst (.d (.int .i64 9)))],none⟩,
 ⟨some 21,.fad 1 (.tmp 4),none⟩,
 ⟨some 22,.ld false 1 (.tmp 21),none⟩,
 ⟨some 23,.cmp .eql (.tmp 22) (.cst (.d (.int .i64 1000000))),none⟩,
 ⟨some 24,.call 89 [(.tmp 23),(.cst (.d (.int .i64 20)))],none⟩,
 ⟨some 25,.bsl 3 29 1 4 [(.int .i64 0),(.int .i64 0),(.int .i64 0),(.int .i64 0)] [(0,(.tmp 12)),(1,(.tmp 15)),(2,(.tmp 20)),(3,(.tmp 24))],none⟩,
 ⟨some 26,.call 86 [(.tmp 25)],none⟩,
 ⟨some 8,.mov (.tmp 26),none⟩] [(0,1),(0,3),(1,3),(2,3),(0,4),(1,4),(2,4),(3,4),(0,6),(1,6),(2,6),(3,6),(4,6),(5,6),(0,7),(1,7),(2,7),(3,7),(4,7),(5,7),(6,7),(0,8),(1,8),(2,8),(3,8),(4,8),(5,8),(6,8),(0,9),(1,9),(2,9),(3,9),(4,9),(5,9),(0,11),(1,11),(2,11),(3,11),(4,11),(5,11),(6,11),(7,11),(8,11),(9,11),(10,11),(0,12),(1,12),(2,12),(3,12),(4,12),(5,12),(6,12),(7,12),(8,12),(9,12),(10,12),(0,13),(1,13),(2,13),(3,13),(4,13),(5,13),(6,13),(7,13),(8,13),(9,13),(10,13)])
 (.seq
 (.reg [] [⟨some 27,.mov (.tmp 8),none⟩,
 ⟨some 28,.cmp .neq (.tmp 27) (.cst (.d (.int .i64 0))),none⟩])
 (.cond (.tmp 28)
 (.seq
 (.reg [] [⟨some 29,.build [(.d (.int .i64 0)),(.d (.int .i64 0)),(.nils 3)] [],none⟩,
 ⟨some 30,.mov (.tmp 8),none⟩,
 ⟨none,.st 3 (.tmp 6) (.tmp 29),none⟩,
 ⟨some 7,.mov (.tmp 30),none⟩])
 .ret)
 .skip)))
 (.seq
 (.reg [4] [⟨some 31,.ld true 3 (.tmp 4),none⟩,
 ⟨some 32,.calli 99 [(.tmp 31)],none⟩,
 ⟨some 9,.alloc 4 [(.d (.int .i64 0)),(.d (.int .i64 0)),(.nils 3)],none⟩,
 ⟨none,.st 3 (.tmp 9) (.tmp 32),none⟩])
 (.seq
 (.regd [] [⟨some 33,.mov (.tmp 2),none⟩,
 ⟨some 34,.fad 1 (.tmp 4),none⟩,
 ⟨some 35,.ld false 1 (.tmp 34),none⟩,
 ⟨some 36,.arith .add .i64 (.tmp 35) (.cst (.d (.int .i64 1))),none⟩,
 ⟨some 37,.fad 0 (.tmp 9),none⟩,
 ⟨none,.st 1 (.tmp 37) (.tmp 33),none⟩,
 ⟨some 38,.fad 1 (.tmp 9),none⟩,
 ⟨none,.st 1 (.tmp 38) (.tmp 36),none⟩] [(0,1),(0,2),(0,3),(1,4),(2,4),(3,4),(1,5),(2,5),(3,5)])
 (.seq
 (.reg [] [⟨some 39,.fad 2 (.tmp 9),none⟩,
 ⟨some 40,.ld false 1 (.tmp 39),none⟩,
 ⟨some 41,.fad 0 (.tmp 4),none⟩,
 ⟨some 42,.ld false 1 (.tmp 41),none⟩,
 ⟨some 43,.fad 1 (.tmp 4),none⟩,
 ⟨some 44,.ld false 1 (.tmp 43),none⟩,
 ⟨some 45,.build [(.d (.int .i64 0)),(.d (.int .i64 0)),(.d (.int .i64 0))] [(0,1,(.tmp 44)),(1,1,(.cst (.d (.int .i64 0)))),(2,1,(.cst (.d (.int .i64 (-1)))))],none⟩,
 ⟨some 46,.ixa 3 (.tmp 40) (.tmp 42),none⟩,
 ⟨none,.st 3 (.tmp 46) (.tmp 45),none⟩])
 (.seq
 (.reg [] [⟨some 47,.fad 2 (.tmp 9),none⟩,
 ⟨some 48,.ld false 1 (.tmp 47),none⟩,
 ⟨some 49,.mov (.tmp 2),none⟩,
 ⟨some 50,.fad 1 (.tmp 9),none⟩,
 ⟨some 51,.ld false 1 (.tmp 50),none⟩,
 ⟨some 52,.mov (.tmp 2),none⟩,
 ⟨some 53,.build [(.d (.int .i64 0)),(.d (.int .i64 0)),(.d (.int .i64 0))] [(0,1,(.tmp 51)),(1,1,(.cst (.d (.int .i64 0)))),(2,1,(.tmp 52))],none⟩,
 ⟨some 54,.ixa 3 (.tmp 48) (.tmp 49),none⟩,
 ⟨none,.st 3 (.tmp 54) (.tmp 53),none⟩])
 (.seq
 (.reg [] [⟨some 55,.ld true 3 (.tmp 9),none⟩,
 ⟨none,.st 3 (.tmp 6) (.tmp 55),none⟩,
 ⟨some 7,.mov (.cst (.d (.int .i64 0))),none⟩])
 .ret)))))))⟩
def ir129:AFun:=⟨9,0,[.tmp 4],
 (.seq
 (.reg [] [⟨some 4,.mov (.cst (.d (.bool false))),none⟩])
 (.seq
 (.reg [] [⟨some 5,.mov (.tmp 0),none⟩,
 ⟨some 6,.mov (.tmp 1),none⟩,
 ⟨some 7,.call 155 [(.tmp 5),(.tmp 6)],none⟩,
 ⟨some 8,.cmp .geq (.tmp 7) (.cst (.d (.int .i64 0))),none⟩,
 ⟨some 4,.mov (.tmp 8),none⟩])
 .ret))⟩
def ir155:AFun:=⟨19,0,[.tmp 4],
 (.seq
 (.reg [] [⟨some 4,.mov (.cst (.d (.int .i64 0))),none⟩])
 (.seq
 (.seq
 (.reg [] [⟨some 6,.mov (.tmp 0),none⟩,
 ⟨some 7,.len (.tmp 6),none⟩,
 ⟨some 8,.mov (.cst (.d (.int .i64 0))),none⟩])
 (.post [] []
 (.block 0
 (.keep [0,1,7,8] []
 (.loop
 (.post [0,1,7,8] []
 (.seq
 (.reg [] [⟨some 9,.cmp .lss (.tmp 8) (.tmp 7),none⟩])
 (.seq
 (.cond (.tmp 9)
 .skip
 (.exit 0))
 (.seq
 (.block 1
 (.seq
 (.reg [] [⟨some 10,.mov (.tmp 8),none⟩,
 ⟨some 5,.mov (.tmp 10),none⟩])
 (.seq
 (.reg [] [⟨some 11,.mov (.tmp 1),none⟩,
 ⟨some 12,.mov (.tmp 0),none⟩,
 ⟨some 13,.mov (.tmp 5),none⟩,
 ⟨some 14,.ixa 1 (.tmp 12) (.tmp 13),none⟩,
 ⟨some 15,.ld false 1 (.tmp 14),none⟩,
 ⟨some 16,.seq false (.tmp 11) (.tmp 15),none⟩])
 (.cond (.tmp 16)
 (.seq
 (.reg [] [⟨some 17,.mov (.tmp 5),none⟩,
 ⟨some 4,.mov (.tmp 17),none⟩])
 .ret)
 .skip))))
 (.reg [] [⟨some 18,.arith .add .i64 (.tmp 8) (.cst (.d (.int .i64 1))),none⟩,
 ⟨some 8,.mov (.tmp 18),none⟩]))))))))))
 (.seq
 (.reg [] [⟨some 4,.mov (.cst (.d (.int .i64 (-1)))),none⟩])
 .ret)))⟩
theorem c124r (l:List (List UInt8)) (hl:l.length≤1048576):CallRow Tryz.prog 124 [.d (.slice 1 (strs l))] 9 1 (strs l):=by
 have hsl:=strs_len l
 refine callRow_of_vc (x:=ir124) (by kernel_rfl) rfl ?_
 refine And.intro (fun t1=>?_) ?_
 rotate_left
 refine sd ?_
 refine sd ?_
 refine an ?_ ?_
 refine an ?_ ?_
 exact rfl
 refine an ?_ ?_
 exact rfl
 refine an ?_ ?_
 exact rfl
 refine an ?_ ?_
 (show ((0:Nat)+List.length (strs l)) * (16:Nat)≤(2:Nat) ^ (47:Nat); omega)
 (show (0:Nat)+List.length (strs l)≤(2:Nat) ^ (47:Nat); omega)
 rotate_left
 ·exact .inr ⟨by decide,t1,1,rfl,rfl⟩
 ·exact .inl ⟨0,⟨rfl,rfl⟩,rfl⟩
theorem c128 (m:Ms) (l:Lk) (hn:m.ns.length≤1048576) (hl:m.ls.length≤1048576):CallDet Tryz.prog 128 [.d m.d,.d l.d] [(⟨m.ns,m.ls++[l]⟩:Ms).d]:=by
 have hsl:=strs_len m.ns
 have hll:=lks_len m.ls
 have e:lks (m.ls++[l])=lks m.ls++[l.d]:=by unfold lks; rw [List.map_append]; rfl
 have fin:∀ X,X=lks (m.ls++[l])→resV [.agg [.slice 1 (strs m.ns),.slice 3 X]]=resV [(⟨m.ns,m.ls++[l]⟩:Ms).d]:=fun X hX=>by rw [hX]; rfl
 refine call_of_vc (x:=ir128) (by kernel_rfl) rfl ?_
 refine ca (c124r m.ns hn) ?_
 refine ca (c126r m.ls hl) ?_
 refine sd ?_
 refine sd ?_
 refine sd ?_
 refine an ?_ ?_
 refine an ?_ ?_
 exact rfl
 refine an ?_ ?_
 exact rfl
 refine an ?_ ?_
 exact rfl
 refine an ?_ ?_
 (show (List.length (lks (Ms.ls m))+(1:Nat)) * (24:Nat)≤(2:Nat) ^ (47:Nat); omega)
 (show List.length (lks (Ms.ls m))+(1:Nat)≤(2:Nat) ^ (47:Nat); omega)
 refine sd ?_
 refine sd ?_
 refine sd ?_
 refine sd ?_
 rotate_left
 exact fin _ e.symm
def linkdE (m:Ms) (s:Sts) (l:Lk):Int:=firstOf [m.chkS s,linkE m.ns.length m.ls l,bif (m.ls.length:Int)==128 then 5 else 0]
def Ms.plus (m:Ms) (l:Lk):Ms:=⟨m.ns,m.ls++[l]⟩
theorem c68 (m:Ms) (s:Sts) (l:Lk) (hm:m.ns.length≤1048576) (hl2:m.ls.length≤1048576) (hn:s.es.length≤1048576):CallDet Tryz.prog 68 [.d m.d,.d s.d,.d (.agg [.int .i64 l.a,.int .i64 l.b,.int .i64 l.c])] [(bif linkdE m s l != 0 then Ms.zero else m.plus l).d,(bif linkdE m s l != 0 then Sts.zero else s).d,.int .i64 (linkdE m s l)]:=by
 have hsl:=strs_len m.ns
 have hll:=lks_len m.ls
 have hE:firstOf [m.chkS s,linkE (strs m.ns).length m.ls l,bif ((lks m.ls).length:Int)==128 then 5 else 0]=linkdE m s l:=by rw [hsl,hll]; rfl
 have bad:∀ v,linkdE m s l=v→¬ v=0→resV [.agg [.slice 1 [],.slice 3 []],.agg [.int .i64 0,.int .i64 0,.slice 3 []],.int .i64 v]=resV [(bif linkdE m s l != 0 then Ms.zero else m.plus l).d,(bif linkdE m s l != 0 then Sts.zero else s).d,.int .i64 (linkdE m s l)]:=fun v e h=>by
  rw [e,show (v != 0)=true by rw [bne_iff_ne]; exact h]; rfl
 have fin:linkdE m s l=0→resV [(⟨m.ns,m.ls++[l]⟩:Ms).d,s.d,.int .i64 0]=resV [(bif linkdE m s l != 0 then Ms.zero else m.plus l).d,(bif linkdE m s l != 0 then Sts.zero else s).d,.int .i64 (linkdE m s l)]:=fun h=>by rw [h]; rfl
 refine call_of_vc (x:=ir68) (by kernel_rfl) rfl ?_
 refine ca (c37 m s hm hl2 hn) ?_
 refine ca (c97 l _ m.ls hl2) ?_
 refine sd ?_
 refine ca (c89 _ _) ?_
 refine sd ?_
 refine sd ?_
 refine ca (c86 [Ms.chkS m s,linkE (↑(List.length (strs (Ms.ns m))):Int) (Ms.ls m) l,bif (↑(List.length (lks (Ms.ls m))):Int)==(128:Int) then (5:Int) else (0:Int)] (by simp)) ?_
 refine sd ?_
 refine b_ne (fun t1=>?_) (fun t1=>?_)
 rotate_left
 refine ca (c128 m l hm hl2) ?_
 refine ca (c99 s hn) ?_
 rotate_left
 ·exact bad _ hE.symm t1
 ·exact fin (hE.symm.trans t1)
def elecE (m:Ms) (s:Sts) (i:Int):Int:=firstOf [m.chkS s,m.nodeE i,bif i==s.co then 9 else 0,bif s.nu==1000000 then 20 else 0]
def Sts.elec (s:Sts) (i:Int):Sts:=⟨i,s.nu+1,(s.es.set s.co.toNat ⟨s.nu,0,-1⟩).set i.toNat ⟨s.nu+1,0,i⟩⟩
theorem c99i_62 (m : Ms) (s : Sts) (a b c d : Int) (hn : s.es.length ≤ 1048576) : CallIn Tryz.prog 99 [.d s.d] [.cbox [.slice 1 (strs m.ns), .slice 3 (lks m.ls)], .cbox [.int .i64 s.co, .int .i64 s.nu, .slice 3 (ens s.es)], .box [.d (.int .i64 0), .d (.int .i64 0), .nils 3], .row 29 1 [.int .i64 a, .int .i64 b, .int .i64 c, .int .i64 d] false, .none, .none, .none, .none, .none] (.agg [.d (.int .i64 s.co), .d (.int .i64 s.nu), .sl 7 (ens s.es).length])
  (setAll [.cbox [.slice 1 (strs m.ns),.slice 3 (lks m.ls)],.cbox [.int .i64 s.co,.int .i64 s.nu,.slice 3 (ens s.es)],.box [.d (.int .i64 0),.d (.int .i64 0),.nils 3],.row 29 1 [.int .i64 a,.int .i64 b,.int .i64 c,.int .i64 d] false,.none,.none,.none,.none,.none] [(5,.cbox [.int .i64 s.co,.int .i64 s.nu,.slice 3 (ens s.es)]),(6,.box [.d (.int .i64 s.co),.d (.int .i64 s.nu),.sl 7 (ens s.es).length]),(7,.row 105 3 (ens s.es) false)]):=by
 have hl:=ens_len s.es
 have e:List.take (ens s.es).length (ens s.es)++List.drop (ens s.es).length (List.replicate (ens s.es).length (.agg [.int .i64 0,.int .i64 0,.int .i64 0]))=ens s.es:=by
  rw [List.take_length,List.drop_eq_nil_of_le (by rw [List.length_replicate]; exact Nat.le_refl _),List.append_nil]
 refine callIn_of_vc 5 (x:=ir99) (by kernel_rfl) rfl rfl rfl ?_
 refine an ?_ ?_
 refine an ?_ ?_
 (show (0:Int)≤(↑(List.length (ens (Sts.es s))):Int); omega)
 refine an ?_ ?_
 (show (↑(List.length (ens (Sts.es s))):Int) * (↑(24:Nat):Int)≤(2:Int) ^ (47:Nat); omega)
 (show (↑(List.length (ens (Sts.es s))):Int)≤(2:Int) ^ (47:Nat); omega)
 refine ca (And.intro rfl (And.intro rfl (And.intro ?_ rfl))) ?_
 focus (show List.length (List.replicate (List.length (ens (Sts.es s))) (Data.agg [Data.int IntKind.i64 (0:Int),Data.int IntKind.i64 (0:Int),Data.int IntKind.i64 (0:Int)]))=List.length (ens (Sts.es s)); simp only [List.length_replicate,List.length_set,List.length_append,List.length_take,List.length_drop]; done)
 refine an ?_ ?_
 (show List.length (List.take (List.length (ens (Sts.es s))) (ens (Sts.es s))++List.drop (List.length (ens (Sts.es s))) (List.replicate (List.length (ens (Sts.es s))) (Data.agg [Data.int IntKind.i64 (0:Int),Data.int IntKind.i64 (0:Int),Data.int IntKind.i64 (0:Int)])))=List.length (ens (Sts.es s)); simp only [List.length_replicate,List.length_set,List.length_append,List.length_take,List.length_drop]; omega)
 refine sd ?_
 rotate_left
 exact congrArg (fun X=>([.cbox [.slice 1 (strs m.ns),.slice 3 (lks m.ls)],.cbox [.int .i64 s.co,.int .i64 s.nu,.slice 3 (ens s.es)],.box [.d (.int .i64 0),.d (.int .i64 0),.nils 3],.row 29 1 [.int .i64 a,.int .i64 b,.int .i64 c,.int .i64 d] false,.none,.cbox [.int .i64 s.co,.int .i64 s.nu,.slice 3 (ens s.es)],.box [.d (.int .i64 s.co),.d (.int .i64 s.nu),.sl 7 (ens s.es).length],.row 105 3 X false,.none]:List AObj)) e
theorem c62 (m:Ms) (s:Sts) (i:Int) (hm:m.ns.length≤1048576) (hl2:m.ls.length≤1048576) (hn:s.es.length≤1048576):CallDet Tryz.prog 62 [.d m.d,.d s.d,.d (.int .i64 i)] [(bif elecE m s i != 0 then Sts.zero else s.elec i).d,.int .i64 (elecE m s i)]:=by
 have hl:=ens_len s.es
 have bad:¬ elecE m s i=0→resV [.agg [.int .i64 0,.int .i64 0,.slice 3 []],.int .i64 (elecE m s i)]=resV [(bif elecE m s i != 0 then Sts.zero else s.elec i).d,.int .i64 (elecE m s i)]:=fun h=>by
  rw [show (elecE m s i != 0)=true by rw [bne_iff_ne]; exact h]; rfl
 have fin:elecE m s i=0→∀ X,X=ens (s.elec i).es→resV [.agg [.int .i64 i,.int .i64 (s.nu+1),.slice 3 X],.int .i64 0]=resV [(bif elecE m s i != 0 then Sts.zero else s.elec i).d,.int .i64 (elecE m s i)]:=fun h X hX=>by rw [h,hX]; rfl
 refine call_of_vc (x:=ir62) (by kernel_rfl) rfl ?_
 by_cases hz:firstOf [m.chkS s,m.nodeE i,bif i==s.co then 9 else 0,bif s.nu==1000000 then 20 else 0]=0
 ·have g:=good_of (firstOf_zero hz (m.chkS s) (by simp))
  have hle:=g.len
  have hco:=g.co
  have hnu:=g.nu
  have hi:=node_in (firstOf_zero hz (m.nodeE i) (by simp))
  have hx:=ens_atI (Sts.at_getI (s:=s) (i:=s.co) (by omega))
  have hE1:((ens s.es).set s.co.toNat (.agg [.int .i64 s.nu,.int .i64 0,.int .i64 (-1)]))=ens (s.es.set s.co.toNat ⟨s.nu,0,-1⟩):=(ens_set s.es s.co.toNat ⟨s.nu,0,-1⟩).symm
  refine Exists.elim (get_lt (s.es.set s.co.toNat ⟨s.nu,0,-1⟩) (k:=i.toNat) (by rw [List.length_set]; omega)) fun y hy=>?_
  have hyd:=ens_atI hy
  rw [← hE1] at hyd
  have hE2:((ens s.es).set s.co.toNat (.agg [.int .i64 s.nu,.int .i64 0,.int .i64 (-1)])).set i.toNat (.agg [.int .i64 (s.nu+1),.int .i64 0,.int .i64 i])=ens (s.elec i).es:=by
   rw [hE1]; exact (ens_set _ i.toNat ⟨s.nu+1,0,i⟩).symm
  refine ca (c37 m s hm hl2 hn) ?_
  refine ca (c87 m _) ?_
  refine sd ?_
  refine ca (c89 _ _) ?_
  refine sd ?_
  refine ca (c89 _ _) ?_
  refine sd ?_
  refine sd ?_
  refine ca (c86 [Ms.chkS m s,Ms.nodeE m i,bif i==Sts.co s then (9:Int) else (0:Int),bif Sts.nu s==(1000000:Int) then (20:Int) else (0:Int)] (by simp)) ?_
  refine sd ?_
  refine b_ne (fun t1=>?_) (fun t1=>?_)
  (exfalso; omega)
  refine Exists.intro _ (Exists.intro _ (And.intro (c99i_62 m s _ _ _ _ hn) ?_))
  refine ar_add ?_ ?_
  refine an ?_ ?_
  (show (-9223372036854775808:Int)≤Sts.nu s+(1:Int); omega)
  (show Sts.nu s+(1:Int)≤(9223372036854775807:Int); omega)
  refine an ?_ ?_
  refine an ?_ ?_
  exact rfl
  refine an ?_ ?_
  exact rfl
  refine an ?_ ?_
  (show (0:Int)≤Sts.co s; omega)
  (show Sts.co s < (↑(List.length (ens (Sts.es s))):Int); omega)
  refine Exists.intro _ (Exists.intro (Vc.Data.agg [Data.int IntKind.i64 (Sts.nu s),Data.int IntKind.i64 (0:Int),Data.int IntKind.i64 (-1:Int)]) (And.intro (And.intro ?_ (And.intro hx (And.intro rfl (And.intro ?_ (And.intro rfl rfl))))) ?_))
  exact rfl
  (show (0:Nat)+(3:Nat)≤(1:Nat)+(1:Nat)+(1:Nat); omega)
  refine an ?_ ?_
  refine an ?_ ?_
  exact rfl
  refine an ?_ ?_
  focus (show List.length (List.set (ens (Sts.es s)) (Int.toNat (Sts.co s)) (Data.agg [Data.int IntKind.i64 (Sts.nu s),Data.int IntKind.i64 (0:Int),Data.int IntKind.i64 (-1:Int)]))=List.length (ens (Sts.es s)); simp only [List.length_replicate,List.length_set,List.length_append,List.length_take,List.length_drop]; done)
  refine an ?_ ?_
  (show (0:Int)≤i; omega)
  (show i < (↑(List.length (ens (Sts.es s))):Int); omega)
  refine Exists.intro _ (Exists.intro (Vc.Data.agg [Data.int IntKind.i64 (Sts.nu s+(1:Int)),Data.int IntKind.i64 (0:Int),Data.int IntKind.i64 i]) (And.intro (And.intro ?_ (And.intro hyd (And.intro rfl (And.intro ?_ (And.intro rfl rfl))))) ?_))
  focus (show List.length (List.set (ens (Sts.es s)) (Int.toNat (Sts.co s)) (Data.agg [Data.int IntKind.i64 (Sts.nu s),Data.int IntKind.i64 (0:Int),Data.int IntKind.i64 (-1:Int)]))=List.length (ens (Sts.es s)); simp only [List.length_replicate,List.length_set,List.length_append,List.length_take,List.length_drop]; done)
  (show (0:Nat)+(3:Nat)≤(1:Nat)+(1:Nat)+(1:Nat); omega)
  refine an ?_ ?_
  focus (show List.length (List.set (List.set (ens (Sts.es s)) (Int.toNat (Sts.co s)) (Data.agg [Data.int IntKind.i64 (Sts.nu s),Data.int IntKind.i64 (0:Int),Data.int IntKind.i64 (-1:Int)])) (Int.toNat i) (Data.agg [Data.int IntKind.i64 (Sts.nu s+(1:Int)),Data.int IntKind.i64 (0:Int),Data.int IntKind.i64 i]))=List.length (ens (Sts.es s)); simp only [List.length_replicate,List.length_set,List.length_append,List.length_take,List.length_drop]; done)
  rotate_left
  exact fin hz _ hE2
 ·refine ca (c37 m s hm hl2 hn) ?_
  refine ca (c87 m _) ?_
  refine sd ?_
  refine ca (c89 _ _) ?_
  refine sd ?_
  refine ca (c89 _ _) ?_
  refine sd ?_
  refine sd ?_
  refine ca (c86 [Ms.chkS m s,Ms.nodeE m i,bif i==Sts.co s then (9:Int) else (0:Int),bif Sts.nu s==(1000000:Int) then (20:Int) else (0:Int)] (by simp)) ?_
  refine sd ?_
  refine b_ne (fun t1=>?_) (fun t1=>?_)
  rotate_left
  (exfalso; omega)
  exact bad hz
theorem c128i_71 (m : Ms) (s : Sts) (l : Lk) (a b c d q : Int) (hn : m.ns.length ≤ 1048576) (hl : m.ls.length ≤ 1048576) : CallIn Tryz.prog 128 [.d m.d, .d l.d] [.cbox [.slice 1 (strs m.ns), .slice 3 (lks m.ls)], .cbox [.int .i64 s.co, .int .i64 s.nu, .slice 3 (ens s.es)], .box [.nils 1, .nils 3], .box [.d (.int .i64 0), .d (.int .i64 0), .nils 3], .row 29 1 [.int .i64 a, .int .i64 b, .int .i64 c, .int .i64 d, .int .i64 q] false, .none, .none, .none, .none, .none, .none, .none, .none, .none, .none, .none, .none, .none, .none, .none, .none] (.agg [.sl 17 (strs m.ns).length, .sl 16 (lks m.ls ++ [l.d]).length])
  (setAll [.cbox [.slice 1 (strs m.ns),.slice 3 (lks m.ls)],.cbox [.int .i64 s.co,.int .i64 s.nu,.slice 3 (ens s.es)],.box [.nils 1,.nils 3],.box [.d (.int .i64 0),.d (.int .i64 0),.nils 3],.row 29 1 [.int .i64 a,.int .i64 b,.int .i64 c,.int .i64 d,.int .i64 q] false,.none,.none,.none,.none,.none,.none,.none,.none,.none,.none,.none,.none,.none,.none,.none,.none] [(11,.cbox [.slice 1 (strs m.ns),.slice 3 (lks m.ls)]),(12,.cbox [.int .i64 l.a,.int .i64 l.b,.int .i64 l.c]),(13,.box [.sl 17 (strs m.ns).length,.sl 16 (lks m.ls++[l.d]).length]),(14,.row 117 3 [l.d] false),(16,.row 117 3 (lks m.ls++[l.d]) false),(17,.row 9 1 (strs m.ns) false)]):=by
 have hsl:=strs_len m.ns
 have hll:=lks_len m.ls
 refine callIn_of_vc 11 (x:=ir128) (by kernel_rfl) rfl rfl rfl ?_
 refine ca (c124r m.ns hn) ?_
 refine ca (c126r m.ls hl) ?_
 refine sd ?_
 refine sd ?_
 refine sd ?_
 refine an ?_ ?_
 refine an ?_ ?_
 exact rfl
 refine an ?_ ?_
 exact rfl
 refine an ?_ ?_
 exact rfl
 refine an ?_ ?_
 (show (List.length (lks (Ms.ls m))+(1:Nat)) * (24:Nat)≤(2:Nat) ^ (47:Nat); omega)
 (show List.length (lks (Ms.ls m))+(1:Nat)≤(2:Nat) ^ (47:Nat); omega)
 refine sd ?_
 refine sd ?_
 refine sd ?_
 exact rfl
def ixW (s:List UInt8):List (List UInt8)→Int→Int
 | [],_=>-1
 | x::r,k=>bif s==x then k else ixW s r (k+1)
theorem ixW_ge (s:List UInt8):∀ (l:List (List UInt8)) (k:Int),0≤k→decide (0≤ixW s l k)=l.contains s
 | [],k,_=>rfl
 | x::r,k,h=>by
  rw [ixW,List.contains_cons]
  cases s==x
  ·exact ixW_ge s r (k+1) (by omega)
  ·exact decide_eq_true h
theorem c155 (l:List (List UInt8)) (s:List UInt8) (hl:l.length≤1048576):CallDet Tryz.prog 155 [.d (.slice 1 (strs l)),.d (.str s)] [.int .i64 (ixW s l 0)]:=by
 have hsl:=strs_len l
 have fin:∀ v,ixW s l 0=v→resV [.int .i64 v]=resV [.int .i64 (ixW s l 0)]:=fun v h=>by rw [h]
 refine call_of_vc (x:=ir155) (by kernel_rfl) rfl ?_
 rotate_left
 refine loop_u (fun k:Nat=>[(8,.d (.int .i64 k))]) (fun k=>[]) (fun k=>k≤l.length∧ixW s l 0=ixW s (l.drop k) k) (fun k=>l.length - k) 0 rfl ⟨Nat.zero_le _,rfl⟩ ?_
 rintro k ⟨hk,he⟩
 have hk:k≤l.length:=hk
 by_cases hkk:k < l.length
 ·refine Exists.elim (get_lt l hkk) fun x hx=>?_
  have hxd:=strs_at hx
  rw [drop_at hx] at he
  refine sd ?_
  refine b_lt (fun t1=>?_) (fun t1=>?_)
  refine ix_at hxd ?_ ?_
  (show (0:Int)≤(↑k:Int); omega)
  refine b_intro (fun t2=>?_) (fun t2=>?_)
  replace t2:(s==x)=true:=t2
  rotate_left
  replace t2:(s==x)=false:=t2
  refine ar_add ?_ ?_
  refine an ?_ ?_
  (show (-9223372036854775808:Int)≤(↑k:Int)+(1:Int); omega)
  (show (↑k:Int)+(1:Int)≤(9223372036854775807:Int); omega)
  rotate_left
  (exfalso; omega)
  ·exact fin _ (by rw [he,ixW,show (s==x)=true from t2]; rfl)
  ·exact ⟨k+1,⟨⟨hkk,by rw [he,ixW,show (s==x)=false from t2]; rfl⟩,by show l.length - (k+1) < l.length - k; omega⟩,rfl⟩
 ·rw [List.drop_eq_nil_of_le (by omega)] at he
  refine sd ?_
  refine b_lt (fun t1=>?_) (fun t1=>?_)
  (exfalso; omega)
  rotate_left
  exact fin _ he
theorem c129 (l:List (List UInt8)) (s:List UInt8) (hl:l.length≤1048576):CallDet Tryz.prog 129 [.d (.slice 1 (strs l)),.d (.str s)] [.bool (l.contains s)]:=by
 refine call_of_vc (x:=ir129) (by kernel_rfl) rfl ?_
 refine ca (c155 l s hl) ?_
 refine sd ?_
 rotate_left
 exact (show resV [.bool (decide (0≤ixW s l 0))]=resV [.bool (l.contains s)] by rw [ixW_ge s l 0 (by decide)])
def joinA (m:Ms) (s:Sts) (nm:List UInt8) (w c:Int):Int:=firstOf [m.chkS s,bif !(isNm nm) then 8 else 0,bif m.ns.contains nm then 9 else 0,m.nodeE w,within3 c 1 100]
def fullB (m:Ms):Bool:=((m.ns.length:Int)==32)||((m.ls.length:Int)==128)
def joinE (m:Ms) (s:Sts) (nm:List UInt8) (w c:Int):Int:=bif joinA m s nm w c != 0 then joinA m s nm w c else bif fullB m then 5 else 0
def Ms.joined (m:Ms) (nm:List UInt8) (w c:Int):Ms:=⟨m.ns++[nm],m.ls++[⟨w,m.ns.length,c⟩]⟩
def Sts.joined (s:Sts):Sts:=⟨s.co,s.nu,s.es++[⟨0,0,-1⟩]⟩
theorem c99i_71 (m : Ms) (s : Sts) (l : Lk) (a b c d q : Int) (nm : List UInt8) (hn : s.es.length ≤ 1048576) : CallIn Tryz.prog 99 [.d s.d] [.cbox [.slice 1 (strs m.ns), .slice 3 (lks m.ls)], .cbox [.int .i64 s.co, .int .i64 s.nu, .slice 3 (ens s.es)], .box [.nils 1, .nils 3], .box [.d (.int .i64 0), .d (.int .i64 0), .nils 3], .row 29 1 [.int .i64 a, .int .i64 b, .int .i64 c, .int .i64 d, .int .i64 q] false, .box [.sl 17 (strs m.ns ++ [Data.str nm]).length, .sl 16 (lks m.ls ++ [l.d]).length], .row 9 1 [Data.str nm] false, .none, .none, .none, .none, .cbox [.slice 1 (strs m.ns), .slice 3 (lks m.ls)], .cbox [.int .i64 l.a, .int .i64 l.b, .int .i64 l.c], .box [.sl 17 (strs m.ns).length, .sl 16 (lks m.ls ++ [l.d]).length], .row 117 3 [l.d] false, .none, .row 117 3 (lks m.ls ++ [l.d]) false, .row 9 1 (strs m.ns ++ [Data.str nm]) false, .none, .none, .none] (.agg [.d (.int .i64 s.co), .d (.int .i64 s.nu), .sl 20 (ens s.es).length])
  (setAll [.cbox [.slice 1 (strs m.ns),.slice 3 (lks m.ls)],.cbox [.int .i64 s.co,.int .i64 s.nu,.slice 3 (ens s.es)],.box [.nils 1,.nils 3],.box [.d (.int .i64 0),.d (.int .i64 0),.nils 3],.row 29 1 [.int .i64 a,.int .i64 b,.int .i64 c,.int .i64 d,.int .i64 q] false,.box [.sl 17 (strs m.ns++[Data.str nm]).length,.sl 16 (lks m.ls++[l.d]).length],.row 9 1 [Data.str nm] false,.none,.none,.none,.none,.cbox [.slice 1 (strs m.ns),.slice 3 (lks m.ls)],.cbox [.int .i64 l.a,.int .i64 l.b,.int .i64 l.c],.box [.sl 17 (strs m.ns).length,.sl 16 (lks m.ls++[l.d]).length],.row 117 3 [l.d] false,.none,.row 117 3 (lks m.ls++[l.d]) false,.row 9 1 (strs m.ns++[Data.str nm]) false,.none,.none,.none] [(18,.cbox [.int .i64 s.co,.int .i64 s.nu,.slice 3 (ens s.es)]),(19,.box [.d (.int .i64 s.co),.d (.int .i64 s.nu),.sl 20 (ens s.es).length]),(20,.row 105 3 (ens s.es) false)]):=by
 have hl:=ens_len s.es
 have e:List.take (ens s.es).length (ens s.es)++List.drop (ens s.es).length (List.replicate (ens s.es).length (.agg [.int .i64 0,.int .i64 0,.int .i64 0]))=ens s.es:=by
  rw [List.take_length,List.drop_eq_nil_of_le (by rw [List.length_replicate]; exact Nat.le_refl _),List.append_nil]
 refine callIn_of_vc 18 (x:=ir99) (by kernel_rfl) rfl rfl rfl ?_
 refine an ?_ ?_
 refine an ?_ ?_
 (show (0:Int)≤(↑(List.length (ens (Sts.es s))):Int); omega)
 refine an ?_ ?_
 (show (↑(List.length (ens (Sts.es s))):Int) * (↑(24:Nat):Int)≤(2:Int) ^ (47:Nat); omega)
 (show (↑(List.length (ens (Sts.es s))):Int)≤(2:Int) ^ (47:Nat); omega)
 refine ca (And.intro rfl (And.intro rfl (And.intro ?_ rfl))) ?_
 focus (show List.length (List.replicate (List.length (ens (Sts.es s))) (Data.agg [Data.int IntKind.i64 (0:Int),Data.int IntKind.i64 (0:Int),Data.int IntKind.i64 (0:Int)]))=List.length (ens (Sts.es s)); simp only [List.length_replicate,List.length_set,List.length_append,List.length_take,List.length_drop]; done)
 refine an ?_ ?_
 (show List.length (List.take (List.length (ens (Sts.es s))) (ens (Sts.es s))++List.drop (List.length (ens (Sts.es s))) (List.replicate (List.length (ens (Sts.es s))) (Data.agg [Data.int IntKind.i64 (0:Int),Data.int IntKind.i64 (0:Int),Data.int IntKind.i64 (0:Int)])))=List.length (ens (Sts.es s)); simp only [List.length_replicate,List.length_set,List.length_append,List.length_take,List.length_drop]; omega)
 refine sd ?_
 rotate_left
 exact congrArg (fun X=>([.cbox [.slice 1 (strs m.ns),.slice 3 (lks m.ls)],.cbox [.int .i64 s.co,.int .i64 s.nu,.slice 3 (ens s.es)],.box [.nils 1,.nils 3],.box [.d (.int .i64 0),.d (.int .i64 0),.nils 3],.row 29 1 [.int .i64 a,.int .i64 b,.int .i64 c,.int .i64 d,.int .i64 q] false,.box [.sl 17 (strs m.ns++[Data.str nm]).length,.sl 16 (lks m.ls++[l.d]).length],.row 9 1 [Data.str nm] false,.none,.none,.none,.none,.cbox [.slice 1 (strs m.ns),.slice 3 (lks m.ls)],.cbox [.int .i64 l.a,.int .i64 l.b,.int .i64 l.c],.box [.sl 17 (strs m.ns).length,.sl 16 (lks m.ls++[l.d]).length],.row 117 3 [l.d] false,.none,.row 117 3 (lks m.ls++[l.d]) false,.row 9 1 (strs m.ns++[Data.str nm]) false,.cbox [.int .i64 s.co,.int .i64 s.nu,.slice 3 (ens s.es)],.box [.d (.int .i64 s.co),.d (.int .i64 s.nu),.sl 20 (ens s.es).length],.row 105 3 X false]:List AObj)) e
theorem c71 (m:Ms) (s:Sts) (nm:List UInt8) (w c:Int) (hm:m.ns.length≤1048576) (hl2:m.ls.length≤1048576) (hn:s.es.length≤1048576):CallDet Tryz.prog 71 [.d m.d,.d s.d,.d (.str nm),.d (.int .i64 w),.d (.int .i64 c)] [(bif joinE m s nm w c != 0 then Ms.zero else m.joined nm w c).d,(bif joinE m s nm w c != 0 then Sts.zero else s.joined).d,.int .i64 (joinE m s nm w c)]:=by
 have hl:=ens_len s.es
 have hsl:=strs_len m.ns
 have hll:=lks_len m.ls
 have bad:∀ v,joinE m s nm w c=v→¬ v=0→resV [.agg [.slice 1 [],.slice 3 []],.agg [.int .i64 0,.int .i64 0,.slice 3 []],.int .i64 v]=resV [(bif joinE m s nm w c != 0 then Ms.zero else m.joined nm w c).d,(bif joinE m s nm w c != 0 then Sts.zero else s.joined).d,.int .i64 (joinE m s nm w c)]:=fun v e h=>by
  rw [e,show (v != 0)=true by rw [bne_iff_ne]; exact h]; rfl
 have fin:joinE m s nm w c=0→∀ X Y Z,X=strs (m.ns++[nm])→Y=lks (m.joined nm w c).ls→Z=ens s.joined.es→resV [.agg [.slice 1 X,.slice 3 Y],.agg [.int .i64 s.co,.int .i64 s.nu,.slice 3 Z],.int .i64 0]=resV [(bif joinE m s nm w c != 0 then Ms.zero else m.joined nm w c).d,(bif joinE m s nm w c != 0 then Sts.zero else s.joined).d,.int .i64 (joinE m s nm w c)]:=fun e X Y Z hX hY hZ=>by
  rw [e,hX,hY,hZ]; rfl
 refine call_of_vc (x:=ir71) (by kernel_rfl) rfl ?_
 have hf0:¬ ((strs m.ns).length:Int)=32→¬ ((lks m.ls).length:Int)=128→fullB m=false:=fun h h2=>by
  unfold fullB; rw [← hsl,← hll,show (((strs m.ns).length:Int)==32)=false by rw [beq_eq_false_iff_ne]; exact h,show (((lks m.ls).length:Int)==128)=false by rw [beq_eq_false_iff_ne]; exact h2]; rfl
 have hf1:((strs m.ns).length:Int)=32→fullB m=true:=fun h=>by
  unfold fullB; rw [← hsl,h]; rfl
 have hf2:((lks m.ls).length:Int)=128→fullB m=true:=fun h=>by
  unfold fullB; rw [← hll,h]; exact Bool.or_true _
 by_cases hz:firstOf [m.chkS s,bif !(isNm nm) then 8 else 0,bif m.ns.contains nm then 9 else 0,m.nodeE w,within3 c 1 100]=0
 ·have hA:joinA m s nm w c=0:=hz
  have g:=good_of (firstOf_zero hz (m.chkS s) (by simp))
  have hle:=g.len
  have h32:=(chk_fine g.chk).n32
  have h128:=(chk_fine g.chk).l128
  refine ca (c37 m s hm hl2 hn) ?_
  refine ca (c96 nm) ?_
  refine ca (c89 _ _) ?_
  refine ca (c129 m.ns nm hm) ?_
  refine ca (c89 _ _) ?_
  refine ca (c87 m _) ?_
  refine ca (c104 _ _ _) ?_
  refine sd ?_
  refine sd ?_
  refine ca (c86 [Ms.chkS m s,bif !isNm nm then (8:Int) else (0:Int),bif List.contains (Ms.ns m) nm then (9:Int) else (0:Int),Ms.nodeE m w,within3 c (1:Int) (100:Int)] (by simp)) ?_
  refine sd ?_
  refine b_ne (fun t1=>?_) (fun t1=>?_)
  (exfalso; omega)
  refine sd ?_
  refine b_eq (fun t2=>?_) (fun t2=>?_)
  refine sd ?_
  rotate_left
  refine sd ?_
  refine b_eq (fun t3=>?_) (fun t3=>?_)
  rotate_left
  refine Exists.intro _ (Exists.intro _ (And.intro (c128i_71 m s ⟨w,(strs m.ns).length,c⟩ _ _ _ _ _ hm hl2) ?_))
  refine sd ?_
  refine sd ?_
  refine sd ?_
  refine an ?_ ?_
  refine an ?_ ?_
  exact rfl
  refine an ?_ ?_
  exact rfl
  refine an ?_ ?_
  exact rfl
  refine an ?_ ?_
  (show (List.length (strs (Ms.ns m))+(1:Nat)) * (16:Nat)≤(2:Nat) ^ (47:Nat); omega)
  (show List.length (strs (Ms.ns m))+(1:Nat)≤(2:Nat) ^ (47:Nat); omega)
  refine sd ?_
  refine Exists.intro _ (Exists.intro _ (And.intro (c99i_71 m s ⟨w,(strs m.ns).length,c⟩ _ _ _ _ _ nm hn) ?_))
  refine sd ?_
  refine sd ?_
  refine sd ?_
  refine an ?_ ?_
  refine an ?_ ?_
  exact rfl
  refine an ?_ ?_
  exact rfl
  refine an ?_ ?_
  exact rfl
  refine an ?_ ?_
  (show (List.length (ens (Sts.es s))+(1:Nat)) * (24:Nat)≤(2:Nat) ^ (47:Nat); omega)
  (show List.length (ens (Sts.es s))+(1:Nat)≤(2:Nat) ^ (47:Nat); omega)
  refine sd ?_
  refine sd ?_
  refine sd ?_
  refine sd ?_
  rotate_left
  ·exact bad _ (by unfold joinE; rw [if_0 hA,hf1 t2]; rfl) (by decide)
  ·exact bad _ (by unfold joinE; rw [if_0 hA,hf2 t3]; rfl) (by decide)
  ·refine fin (by unfold joinE; rw [if_0 hA,hf0 t2 t3]; rfl) _ _ _ ?_ ?_ ?_
   ·unfold strs; rw [List.map_append]; rfl
   ·unfold Ms.joined lks; rw [List.map_append,hsl]; rfl
   ·unfold Sts.joined ens; rw [List.map_append]; rfl
 ·refine ca (c37 m s hm hl2 hn) ?_
  refine ca (c96 nm) ?_
  refine ca (c89 _ _) ?_
  refine ca (c129 m.ns nm hm) ?_
  refine ca (c89 _ _) ?_
  refine ca (c87 m _) ?_
  refine ca (c104 _ _ _) ?_
  refine sd ?_
  refine sd ?_
  refine ca (c86 [Ms.chkS m s,bif !isNm nm then (8:Int) else (0:Int),bif List.contains (Ms.ns m) nm then (9:Int) else (0:Int),Ms.nodeE m w,within3 c (1:Int) (100:Int)] (by simp)) ?_
  refine sd ?_
  refine b_ne (fun t1=>?_) (fun t1=>?_)
  rotate_left
  (exfalso; omega)
  exact bad _ (if_1 hz) hz
end Vc
set_option maxRecDepth 10000
set_option maxHeartbeats 4000000
namespace Vc
open Go Go.Proofs
def ir130:AFun:=⟨12,6,[.cell 2 2 true],
 (.seq
 (.reg [0,1] [⟨some 1,.cbx 0 2 (.tmp 0),none⟩,
 ⟨some 2,.alloc 1 [(.nils 1),(.nils 3)],none⟩])
 (.seq
 (.regd [2,3,4,5] [⟨some 3,.bsl 2 9 1 0 [] [],none⟩,
 ⟨some 4,.fad 0 (.tmp 1),none⟩,
 ⟨some 5,.ld false 1 (.tmp 4),none⟩,
 ⟨some 6,.app 3 9 1 16 (.tmp 3) (.tmp 5),none⟩,
 ⟨some 7,.bsl 4 114 3 0 [] [],none⟩,
 ⟨some 8,.fad 1 (.tmp 1),none⟩,
 ⟨some 9,.ld false 1 (.tmp 8),none⟩,
 ⟨some 10,.app 5 114 3 24 (.tmp 7) (.tmp 9),none⟩,
 ⟨some 11,.build [(.nils 1),(.nils 3)] [(0,1,(.tmp 6)),(1,1,(.tmp 10))],none⟩,
 ⟨none,.st 2 (.tmp 2) (.tmp 11),none⟩] [(0,1),(0,2),(0,4),(1,4),(2,4),(3,4),(0,5),(1,5),(2,5),(3,5),(4,5),(0,6),(1,6),(2,6),(3,6),(4,6)])
 .ret))⟩
def ir130x:AFun:=⟨12,6,[.cell 2 2 true],
 (.seq
 (.reg [] [⟨some 1,.cbx 0 2 (.tmp 0),none⟩,
 ⟨some 2,.alloc 1 [(.nils 1),(.nils 3)],none⟩])
 (.seq
 (.regd [] [⟨some 3,.bsl 2 9 1 0 [] [],none⟩,
 ⟨some 4,.fad 0 (.tmp 1),none⟩,
 ⟨some 5,.ld false 1 (.tmp 4),none⟩,
 ⟨some 6,.app 3 9 1 16 (.tmp 3) (.tmp 5),none⟩,
 ⟨some 7,.bsl 4 114 3 0 [] [],none⟩,
 ⟨some 8,.fad 1 (.tmp 1),none⟩,
 ⟨some 9,.ld false 1 (.tmp 8),none⟩,
 ⟨some 10,.app 5 114 3 24 (.tmp 7) (.tmp 9),none⟩,
 ⟨some 11,.build [(.nils 1),(.nils 3)] [(0,1,(.tmp 6)),(1,1,(.tmp 10))],none⟩,
 ⟨none,.st 2 (.tmp 2) (.tmp 11),none⟩] [(0,1),(0,2),(0,4),(1,4),(2,4),(3,4),(0,5),(1,5),(2,5),(3,5),(4,5),(0,6),(1,6),(2,6),(3,6),(4,6)])
 .ret))⟩
def ir103x:AFun:=⟨9,4,[.cell 2 3 true],
 (.seq
 (.reg [] [⟨some 1,.box 0 3 (.tmp 0),none⟩,
 ⟨some 2,.alloc 1 [(.d (.int .i64 0)),(.d (.int .i64 0)),(.nils 3)],none⟩])
 (.seq
 (.reg [] [⟨some 3,.bsl 2 106 3 0 [] [],none⟩,
 ⟨some 4,.fad 2 (.tmp 1),none⟩,
 ⟨some 5,.ld false 1 (.tmp 4),none⟩,
 ⟨some 6,.app 3 106 3 24 (.tmp 3) (.tmp 5),none⟩,
 ⟨some 7,.fad 2 (.tmp 1),none⟩,
 ⟨none,.st 1 (.tmp 7) (.tmp 6),none⟩])
 (.seq
 (.reg [] [⟨some 8,.ld true 3 (.tmp 1),none⟩,
 ⟨none,.st 3 (.tmp 2) (.tmp 8),none⟩])
 .ret)))⟩
def ir72:AFun:=⟨37,15,[.cell 6 2 true,.cell 7 3 true,.tmp 8],
 (.seq
 (.reg [0,1,2,3,4] [⟨some 3,.cbx 0 2 (.tmp 0),none⟩,
 ⟨some 4,.cbx 1 3 (.tmp 1),none⟩,
 ⟨some 5,.cbx 2 3 (.tmp 2),none⟩,
 ⟨some 6,.alloc 3 [(.nils 1),(.nils 3)],none⟩,
 ⟨some 7,.alloc 4 [(.d (.int .i64 0)),(.d (.int .i64 0)),(.nils 3)],none⟩,
 ⟨some 8,.mov (.cst (.d (.int .i64 0))),none⟩])
 (.seq
 (.seq
 (.regd [5] [⟨some 11,.ld true 2 (.tmp 3),none⟩,
 ⟨some 12,.ld true 3 (.tmp 5),none⟩,
 ⟨some 13,.call 94 [(.tmp 11),(.tmp 12)],none⟩,
 ⟨some 14,.fad 1 (.tmp 3),none⟩,
 ⟨some 15,.ld false 1 (.tmp 14),none⟩,
 ⟨some 16,.len (.tmp 15),none⟩,
 ⟨some 17,.cmp .geq (.tmp 16) (.cst (.d (.int .i64 128))),none⟩,
 ⟨some 18,.call 49 [(.tmp 17),(.cst (.d (.int .i64 5)))],none⟩,
 ⟨some 19,.bsl 5 3 1 2 [(.int .i64 0),(.int .i64 0)] [(0,(.tmp 13)),(1,(.tmp 18))],none⟩,
 ⟨some 20,.call 100 [(.tmp 19)],none⟩,
 ⟨some 9,.mov (.tmp 20),none⟩] [(0,1),(0,3),(1,3),(2,3),(0,4),(1,4),(2,4),(0,5),(1,5),(2,5),(0,6),(1,6),(2,6)])
 (.seq
 (.reg [] [⟨some 21,.mov (.tmp 9),none⟩,
 ⟨some 22,.cmp .neq (.tmp 21) (.cst (.d (.int .i64 0))),none⟩])
 (.cond (.tmp 22)
 (.seq
 (.reg [] [⟨some 23,.build [(.nils 1),(.nils 3)] [],none⟩,
 ⟨some 24,.build [(.d (.int .i64 0)),(.d (.int .i64 0)),(.nils 3)] [],none⟩,
 ⟨some 25,.mov (.tmp 9),none⟩,
 ⟨none,.st 2 (.tmp 6) (.tmp 23),none⟩,
 ⟨none,.st 3 (.tmp 7) (.tmp 24),none⟩,
 ⟨some 8,.mov (.tmp 25),none⟩])
 .ret)
 .skip)))
 (.seq
 (.reg [6] [⟨some 26,.ld true 2 (.tmp 3),none⟩,
 ⟨some 27,.calli 130 [(.tmp 26)],none⟩,
 ⟨some 10,.alloc 6 [(.nils 1),(.nils 3)],none⟩,
 ⟨none,.st 2 (.tmp 10) (.tmp 27),none⟩])
 (.seq
 (.reg [7,8] [⟨some 28,.fad 1 (.tmp 10),none⟩,
 ⟨some 29,.ld false 1 (.tmp 28),none⟩,
 ⟨some 30,.ld true 3 (.tmp 5),none⟩,
 ⟨some 31,.bsl 7 114 3 1 [(.agg [(.int .i64 0),(.int .i64 0),(.int .i64 0)])] [(0,(.tmp 30))],none⟩,
 ⟨some 32,.app 8 114 3 24 (.tmp 29) (.tmp 31),none⟩,
 ⟨some 33,.fad 1 (.tmp 10),none⟩,
 ⟨none,.st 1 (.tmp 33) (.tmp 32),none⟩])
 (.seq
 (.regd [] [⟨some 34,.ld true 2 (.tmp 10),none⟩,
 ⟨some 35,.ld true 3 (.tmp 4),none⟩,
 ⟨some 36,.call 103 [(.tmp 35)],none⟩,
 ⟨none,.st 2 (.tmp 6) (.tmp 34),none⟩,
 ⟨none,.st 3 (.tmp 7) (.tmp 36),none⟩,
 ⟨some 8,.mov (.cst (.d (.int .i64 0))),none⟩] [(0,1),(0,2)])
 .ret)))))⟩
def ir73:AFun:=⟨74,23,[.cell 10 2 true,.cell 11 3 true,.tmp 12],
 (.seq
 (.reg [0,1,2,3] [⟨some 5,.cbx 0 2 (.tmp 0),none⟩,
 ⟨some 6,.cbx 1 3 (.tmp 1),none⟩,
 ⟨some 10,.alloc 2 [(.nils 1),(.nils 3)],none⟩,
 ⟨some 11,.alloc 3 [(.d (.int .i64 0)),(.d (.int .i64 0)),(.nils 3)],none⟩,
 ⟨some 12,.mov (.cst (.d (.int .i64 0))),none⟩])
 (.seq
 (.seq
 (.regd [4] [⟨some 16,.mov (.tmp 2),none⟩,
 ⟨some 17,.call 131 [(.tmp 16)],none⟩,
 ⟨some 18,.fad 0 (.tmp 5),none⟩,
 ⟨some 19,.ld false 1 (.tmp 18),none⟩,
 ⟨some 20,.mov (.tmp 2),none⟩,
 ⟨some 21,.call 82 [(.tmp 19),(.tmp 20)],none⟩,
 ⟨some 22,.call 49 [(.tmp 21),(.cst (.d (.int .i64 9)))],none⟩,
 ⟨some 23,.ld true 2 (.tmp 5),none⟩,
 ⟨some 24,.mov (.tmp 3),none⟩,
 ⟨some 25,.call 23 [(.tmp 23),(.tmp 24)],none⟩,
 ⟨some 26,.mov (.tmp 4),none⟩,
 ⟨some 27,.call 101 [(.tmp 26),(.cst (.d (.int .i64 1))),(.cst (.d (.int .i64 100)))],none⟩,
 ⟨some 28,.fad 0 (.tmp 5),none⟩,
 ⟨some 29,.ld false 1 (.tmp 28),none⟩,
 ⟨some 30,.len (.tmp 29),none⟩,
 ⟨some 31,.cmp .geq (.tmp 30) (.cst (.d (.int .i64 32))),none⟩,
 ⟨some 32,.call 49 [(.tmp 31),(.cst (.d (.int .i64 5)))],none⟩,
 ⟨some 33,.fad 1 (.tmp 5),none⟩,
 ⟨some 34,.ld false 1 (.tmp 33),none⟩,
 ⟨some 35,.len (.tmp 34),none⟩,
 ⟨some 36,.cmp .geq (.tmp 35) (.cst (.d (.int .i64 128))),none⟩,
 ⟨some 37,.call 49 [(.tmp 36),(.cst (.d (.int .i64 5)))],none⟩,
 ⟨some 38,.bsl 4 3 1 6 [(.int .i64 0),(.int .i64 0),(.int .i64 0),(.int .i64 0),(.int .i64 0),(.int .i64 0)] [(0,(.tmp 17)),(1,(.tmp 22)),(2,(.tmp 25)),(3,(.tmp 27)),(4,(.tmp 32)),(5,(.tmp 37))],none⟩,
 ⟨some 39,.call 100 [(.tmp 38)],none⟩,
 ⟨some 13,.mov (.tmp 39),none⟩] [(0,2),(1,2),(0,3),(1,3),(0,4),(1,4),(2,4),(3,4),(0,7),(1,7),(2,7),(3,7),(4,7),(5,7),(6,7),(0,8),(1,8),(2,8),(3,8),(4,8),(5,8),(6,8),(7,8),(0,10),(1,10),(2,10),(3,10),(4,10),(5,10),(6,10),(7,10),(8,10),(9,10),(0,12),(1,12),(2,12),(3,12),(4,12),(5,12),(6,12),(7,12),(8,12),(9,12),(10,12),(11,12),(0,13),(1,13),(2,13),(3,13),(4,13),(5,13),(6,13),(7,13),(8,13),(9,13),(10,13),(11,13),(0,14),(1,14),(2,14),(3,14),(4,14),(5,14),(6,14),(7,14),(8,14),(9,14),(10,14),(11,14),(0,15),(1,15),(2,15),(3,15),(4,15),(5,15),(6,15),(7,15),(8,15),(9,15),(10,15),(11,15),(0,17),(1,17),(2,17),(3,17),(4,17),(5,17),(6,17),(7,17),(8,17),(9,17),(10,17),(11,17),(12,17),(13,17),(14,17),(15,17),(16,17),(0,18),(1,18),(2,18),(3,18),(4,18),(5,18),(6,18),(7,18),(8,18),(9,18),(10,18),(11,18),(12,18),(13,18),(14,18),(15,18),(16,18),(0,19),(1,19),(2,19),(3,19),(4,19),(5,19),(6,19),(7,19),(8,19),(9,19),(10,19),(11,19),(12,19),(13,19),(14,19),(15,19),(16,19),(0,20),(1,20),(2,20),(3,20),(4,20),(5,20),(6,20),(7,20),(8,20),(9,20),(10,20),(11,20),(12,20),(13,20),(14,20),(15,20),(16,20)])
 (.seq
 (.reg [] [⟨some 40,.mov (.tmp 13),none⟩,
 ⟨some 41,.cmp .neq (.tmp 40) (.cst (.d (.int .i64 0))),none⟩])
 (.cond (.tmp 41)
 (.seq
 (.reg [] [⟨some 42,.build [(.nils 1),(.nils 3)] [],none⟩,
 ⟨some 43,.build [(.d (.int .i64 0)),(.d (.int .i64 0)),(.nils 3)] [],none⟩,
 ⟨some 44,.mov (.tmp 13),none⟩,
 ⟨none,.st 2 (.tmp 10) (.tmp 42),none⟩,
 ⟨none,.st 3 (.tmp 11) (.tmp 43),none⟩,
 ⟨some 12,.mov (.tmp 44),none⟩])
 .ret)
 .skip)))
 (.seq
 (.regd [5,6] [⟨some 45,.ld true 2 (.tmp 5),none⟩,
 ⟨some 46,.callx [5,6] 130 [(.tmp 45)],none⟩,
 ⟨some 47,.ld true 3 (.tmp 6),none⟩,
 ⟨some 48,.callx [5,6] 103 [(.tmp 47)],none⟩,
 ⟨some 14,.alloc 5 [(.nils 1),(.nils 3)],none⟩,
 ⟨some 15,.alloc 6 [(.d (.int .i64 0)),(.d (.int .i64 0)),(.nils 3)],none⟩,
 ⟨none,.st 2 (.tmp 14) (.tmp 46),none⟩,
 ⟨none,.st 3 (.tmp 15) (.tmp 48),none⟩] [(0,2),(1,2),(0,4),(1,4),(2,4),(3,4),(0,5),(1,5),(2,5),(3,5),(4,5)])
 (.seq
 (.reg [7,8] [⟨some 49,.fad 0 (.tmp 14),none⟩,
 ⟨some 50,.ld false 1 (.tmp 49),none⟩,
 ⟨some 51,.mov (.tmp 2),none⟩,
 ⟨some 52,.bsl 7 9 1 1 [(.str [])] [(0,(.tmp 51))],none⟩,
 ⟨some 53,.app 8 9 1 16 (.tmp 50) (.tmp 52),none⟩,
 ⟨some 54,.fad 0 (.tmp 14),none⟩,
 ⟨none,.st 1 (.tmp 54) (.tmp 53),none⟩])
 (.seq
 (.reg [9,10] [⟨some 55,.fad 1 (.tmp 14),none⟩,
 ⟨some 56,.ld false 1 (.tmp 55),none⟩,
 ⟨some 57,.mov (.tmp 3),none⟩,
 ⟨some 58,.fad 0 (.tmp 5),none⟩,
 ⟨some 59,.ld false 1 (.tmp 58),none⟩,
 ⟨some 60,.len (.tmp 59),none⟩,
 ⟨some 61,.mov (.tmp 4),none⟩,
 ⟨some 62,.build [(.d (.int .i64 0)),(.d (.int .i64 0)),(.d (.int .i64 0))] [(0,1,(.tmp 57)),(1,1,(.tmp 60)),(2,1,(.tmp 61))],none⟩,
 ⟨some 63,.bsl 9 114 3 1 [(.agg [(.int .i64 0),(.int .i64 0),(.int .i64 0)])] [(0,(.tmp 62))],none⟩,
 ⟨some 64,.app 10 114 3 24 (.tmp 56) (.tmp 63),none⟩,
 ⟨some 65,.fad 1 (.tmp 14),none⟩,
 ⟨none,.st 1 (.tmp 65) (.tmp 64),none⟩])
 (.seq
 (.reg [11,12] [⟨some 66,.fad 2 (.tmp 15),none⟩,
 ⟨some 67,.ld false 1 (.tmp 66),none⟩,
 ⟨some 68,.build [(.d (.int .i64 0)),(.d (.int .i64 0)),(.d (.int .i64 0))] [(2,1,(.cst (.d (.int .i64 (-1)))))],none⟩,
 ⟨some 69,.bsl 11 106 3 1 [(.agg [(.int .i64 0),(.int .i64 0),(.int .i64 0)])] [(0,(.tmp 68))],none⟩,
 ⟨some 70,.app 12 106 3 24 (.tmp 67) (.tmp 69),none⟩,
 ⟨some 71,.fad 2 (.tmp 15),none⟩,
 ⟨none,.st 1 (.tmp 71) (.tmp 70),none⟩])
 (.seq
 (.regd [] [⟨some 72,.ld true 2 (.tmp 14),none⟩,
 ⟨some 73,.ld true 3 (.tmp 15),none⟩,
 ⟨none,.st 2 (.tmp 10) (.tmp 72),none⟩,
 ⟨none,.st 3 (.tmp 11) (.tmp 73),none⟩,
 ⟨some 12,.mov (.cst (.d (.int .i64 0))),none⟩] [(0,1),(1,2)])
 .ret)))))))⟩
def ir74:AFun:=⟨67,20,[.cell 6 2 true,.cell 7 3 true],
 (.seq
 (.reg [0,1,2,3] [⟨some 3,.cbx 0 2 (.tmp 0),none⟩,
 ⟨some 4,.cbx 1 3 (.tmp 1),none⟩,
 ⟨some 6,.alloc 2 [(.nils 1),(.nils 3)],none⟩,
 ⟨some 7,.alloc 3 [(.d (.int .i64 0)),(.d (.int .i64 0)),(.nils 3)],none⟩])
 (.seq
 (.reg [4] [⟨some 11,.fad 1 (.tmp 3),none⟩,
 ⟨some 12,.ld false 1 (.tmp 11),none⟩,
 ⟨some 13,.mov (.tmp 2),none⟩,
 ⟨some 14,.ixa 3 (.tmp 12) (.tmp 13),none⟩,
 ⟨some 15,.ld true 3 (.tmp 14),none⟩,
 ⟨some 8,.alloc 4 [(.d (.int .i64 0)),(.d (.int .i64 0)),(.d (.int .i64 0))],none⟩,
 ⟨none,.st 3 (.tmp 8) (.tmp 15),none⟩])
 (.seq
 (.regd [5,6] [⟨some 16,.ld true 2 (.tmp 3),none⟩,
 ⟨some 17,.callx [5,6] 130 [(.tmp 16)],none⟩,
 ⟨some 18,.ld true 3 (.tmp 4),none⟩,
 ⟨some 19,.callx [5,6] 103 [(.tmp 18)],none⟩,
 ⟨some 9,.alloc 5 [(.nils 1),(.nils 3)],none⟩,
 ⟨some 10,.alloc 6 [(.d (.int .i64 0)),(.d (.int .i64 0)),(.nils 3)],none⟩,
 ⟨none,.st 2 (.tmp 9) (.tmp 17),none⟩,
 ⟨none,.st 3 (.tmp 10) (.tmp 19),none⟩] [(0,2),(1,2),(0,4),(1,4),(2,4),(3,4),(0,5),(1,5),(2,5),(3,5),(4,5)])
 (.seq
 (.regd [7,8,9] [⟨some 20,.bsl 7 114 3 0 [] [],none⟩,
 ⟨some 21,.fad 1 (.tmp 3),none⟩,
 ⟨some 22,.ld false 1 (.tmp 21),none⟩,
 ⟨some 23,.mov (.tmp 2),none⟩,
 ⟨some 24,.slc 3 (.tmp 22) none (some (.tmp 23)),none⟩,
 ⟨some 25,.app 8 114 3 24 (.tmp 20) (.tmp 24),none⟩,
 ⟨some 26,.fad 1 (.tmp 3),none⟩,
 ⟨some 27,.ld false 1 (.tmp 26),none⟩,
 ⟨some 28,.mov (.tmp 2),none⟩,
 ⟨some 29,.arith .add .i64 (.tmp 28) (.cst (.d (.int .i64 1))),none⟩,
 ⟨some 30,.slc 3 (.tmp 27) (some (.tmp 29)) none,none⟩,
 ⟨some 31,.app 9 114 3 24 (.tmp 25) (.tmp 30),none⟩,
 ⟨some 32,.fad 1 (.tmp 9),none⟩,
 ⟨none,.st 1 (.tmp 32) (.tmp 31),none⟩] [(0,1),(0,2),(0,3),(1,3),(2,3),(0,4),(0,6),(1,6),(2,6),(3,6),(4,6),(5,6),(0,7),(1,7),(2,7),(3,7),(4,7),(5,7),(0,8),(1,8),(2,8),(3,8),(4,8),(5,8),(6,8),(7,8),(0,9),(1,9),(2,9),(3,9),(4,9),(5,9),(6,9),(7,9),(0,10),(1,10),(2,10),(3,10),(4,10),(5,10)])
 (.seq
 (.seq
 (.regd [] [⟨some 33,.fad 2 (.tmp 10),none⟩,
 ⟨some 34,.ld false 1 (.tmp 33),none⟩,
 ⟨some 35,.fad 0 (.tmp 8),none⟩,
 ⟨some 36,.ld false 1 (.tmp 35),none⟩,
 ⟨some 37,.ixa 3 (.tmp 34) (.tmp 36),none⟩,
 ⟨some 38,.fad 2 (.tmp 37),none⟩,
 ⟨some 39,.ld false 1 (.tmp 38),none⟩,
 ⟨some 40,.fad 1 (.tmp 8),none⟩,
 ⟨some 41,.ld false 1 (.tmp 40),none⟩,
 ⟨some 42,.cmp .eql (.tmp 39) (.tmp 41),none⟩] [(0,2),(1,2),(0,3),(1,3),(0,7),(1,7),(2,7),(3,7),(4,7),(5,7),(6,7),(0,8),(1,8),(2,8),(3,8),(4,8),(5,8),(6,8)])
 (.cond (.tmp 42)
 (.reg [] [⟨some 43,.fad 2 (.tmp 10),none⟩,
 ⟨some 44,.ld false 1 (.tmp 43),none⟩,
 ⟨some 45,.fad 0 (.tmp 8),none⟩,
 ⟨some 46,.ld false 1 (.tmp 45),none⟩,
 ⟨some 47,.ixa 3 (.tmp 44) (.tmp 46),none⟩,
 ⟨some 48,.fad 2 (.tmp 47),none⟩,
 ⟨none,.st 1 (.tmp 48) (.cst (.d (.int .i64 (-1)))),none⟩])
 .skip))
 (.seq
 (.seq
 (.regd [] [⟨some 49,.fad 2 (.tmp 10),none⟩,
 ⟨some 50,.ld false 1 (.tmp 49),none⟩,
 ⟨some 51,.fad 1 (.tmp 8),none⟩,
 ⟨some 52,.ld false 1 (.tmp 51),none⟩,
 ⟨some 53,.ixa 3 (.tmp 50) (.tmp 52),none⟩,
 ⟨some 54,.fad 2 (.tmp 53),none⟩,
 ⟨some 55,.ld false 1 (.tmp 54),none⟩,
 ⟨some 56,.fad 0 (.tmp 8),none⟩,
 ⟨some 57,.ld false 1 (.tmp 56),none⟩,
 ⟨some 58,.cmp .eql (.tmp 55) (.tmp 57),none⟩] [(0,2),(1,2),(0,3),(1,3),(0,7),(1,7),(2,7),(3,7),(4,7),(5,7),(6,7),(0,8),(1,8),(2,8),(3,8),(4,8),(5,8),(6,8)])
 (.cond (.tmp 58)
 (.reg [] [⟨some 59,.fad 2 (.tmp 10),none⟩,
 ⟨some 60,.ld false 1 (.tmp 59),none⟩,
 ⟨some 61,.fad 1 (.tmp 8),none⟩,
 ⟨some 62,.ld false 1 (.tmp 61),none⟩,
 ⟨some 63,.ixa 3 (.tmp 60) (.tmp 62),none⟩,
 ⟨some 64,.fad 2 (.tmp 63),none⟩,
 ⟨none,.st 1 (.tmp 64) (.cst (.d (.int .i64 (-1)))),none⟩])
 .skip))
 (.seq
 (.regd [] [⟨some 65,.ld true 2 (.tmp 9),none⟩,
 ⟨some 66,.ld true 3 (.tmp 10),none⟩,
 ⟨none,.st 2 (.tmp 6) (.tmp 65),none⟩,
 ⟨none,.st 3 (.tmp 7) (.tmp 66),none⟩] [(0,1),(1,2)])
 .ret)))))))⟩
def ir75:AFun:=⟨42,7,[.cell 4 3 true,.tmp 5],
 (.seq
 (.reg [0,1] [⟨some 2,.cbx 0 3 (.tmp 0),none⟩,
 ⟨some 4,.alloc 1 [(.d (.int .i64 0)),(.d (.int .i64 0)),(.nils 3)],none⟩,
 ⟨some 5,.mov (.cst (.d (.int .i64 0))),none⟩])
 (.seq
 (.seq
 (.reg [] [⟨some 7,.mov (.tmp 1),none⟩,
 ⟨some 8,.fad 0 (.tmp 2),none⟩,
 ⟨some 9,.ld false 1 (.tmp 8),none⟩,
 ⟨some 10,.cmp .eql (.tmp 7) (.tmp 9),none⟩])
 (.cond (.tmp 10)
 (.seq
 (.reg [] [⟨some 11,.build [(.d (.int .i64 0)),(.d (.int .i64 0)),(.nils 3)] [],none⟩,
 ⟨none,.st 3 (.tmp 4) (.tmp 11),none⟩,
 ⟨some 5,.mov (.cst (.d (.int .i64 9))),none⟩])
 .ret)
 .skip))
 (.seq
 (.seq
 (.reg [] [⟨some 12,.fad 1 (.tmp 2),none⟩,
 ⟨some 13,.ld false 1 (.tmp 12),none⟩,
 ⟨some 14,.cmp .geq (.tmp 13) (.cst (.d (.int .i64 1000000))),none⟩])
 (.cond (.tmp 14)
 (.seq
 (.reg [] [⟨some 15,.build [(.d (.int .i64 0)),(.d (.int .i64 0)),(.nils 3)] [],none⟩,
 ⟨none,.st 3 (.tmp 4) (.tmp 15),none⟩,
 ⟨some 5,.mov (.cst (.d (.int .i64 20))),none⟩])
 .ret)
 .skip))
 (.seq
 (.reg [2] [⟨some 16,.ld true 3 (.tmp 2),none⟩,
 ⟨some 17,.calli 103 [(.tmp 16)],none⟩,
 ⟨some 6,.alloc 2 [(.d (.int .i64 0)),(.d (.int .i64 0)),(.nils 3)],none⟩,
 ⟨none,.st 3 (.tmp 6) (.tmp 17),none⟩])
 (.seq
 (.regd [] [⟨some 18,.mov (.tmp 1),none⟩,
 ⟨some 19,.fad 1 (.tmp 2),none⟩,
 ⟨some 20,.ld false 1 (.tmp 19),none⟩,
 ⟨some 21,.arith .add .i64 (.tmp 20) (.cst (.d (.int .i64 1))),none⟩,
 ⟨some 22,.fad 0 (.tmp 6),none⟩,
 ⟨none,.st 1 (.tmp 22) (.tmp 18),none⟩,
 ⟨some 23,.fad 1 (.tmp 6),none⟩,
 ⟨none,.st 1 (.tmp 23) (.tmp 21),none⟩] [(0,1),(0,2),(0,3),(1,4),(2,4),(3,4),(1,5),(2,5),(3,5)])
 (.seq
 (.reg [] [⟨some 24,.fad 2 (.tmp 6),none⟩,
 ⟨some 25,.ld false 1 (.tmp 24),none⟩,
 ⟨some 26,.fad 0 (.tmp 2),none⟩,
 ⟨some 27,.ld false 1 (.tmp 26),none⟩,
 ⟨some 28,.fad 1 (.tmp 2),none⟩,
 ⟨some 29,.ld false 1 (.tmp 28),none⟩,
 ⟨some 30,.build [(.d (.int .i64 0)),(.d (.int .i64 0)),(.d (.int .i64 0))] [(0,1,(.tmp 29)),(1,1,(.cst (.d (.int .i64 0)))),(2,1,(.cst (.d (.int .i64 (-1)))))],none⟩,
 ⟨some 31,.ixa 3 (.tmp 25) (.tmp 27),none⟩,
 ⟨none,.st 3 (.tmp 31) (.tmp 30),none⟩])
 (.seq
 (.reg [] [⟨some 32,.fad 2 (.tmp 6),none⟩,
 ⟨some 33,.ld false 1 (.tmp 32),none⟩,
 ⟨some 34,.mov (.tmp 1),none⟩,
 ⟨some 35,.fad 1 (.tmp 2),none⟩,
 ⟨some 36,.ld false 1 (.tmp 35),none⟩,
 ⟨some 37,.arith .add .i64 (.tmp 36) (.cst (.d (.int .i64 1))),none⟩,
 ⟨some 38,.mov (.tmp 1),none⟩,
 ⟨some 39,.build [(.d (.int .i64 0)),(.d (.int .i64 0)),(.d (.int .i64 0))] [(0,1,(.tmp 37)),(1,1,(.cst (.d (.int .i64 0)))),(2,1,(.tmp 38))],none⟩,
 ⟨some 40,.ixa 3 (.tmp 33) (.tmp 34),none⟩,
 ⟨none,.st 3 (.tmp 40) (.tmp 39),none⟩])
 (.seq
 (.reg [] [⟨some 41,.ld true 3 (.tmp 6),none⟩,
 ⟨none,.st 3 (.tmp 4) (.tmp 41),none⟩,
 ⟨some 5,.mov (.cst (.d (.int .i64 0))),none⟩])
 .ret))))))))⟩
theorem inN_two {a b i:Nat} (h1:i≠a) (h2:i≠b):inN [a,b] i=false:=by
 unfold inN
 simp only [List.any_cons,List.any_nil,Bool.or_false,Bool.or_eq_false_iff]
 constructor
 ·cases h:Nat.beq i a
  ·rfl
  ·exact absurd (Nat.eq_of_beq_eq_true h) h1
 ·cases h:Nat.beq i b
  ·rfl
  ·exact absurd (Nat.eq_of_beq_eq_true h) h2
theorem agree_two {a b:Nat} {h h':List AObj} (ha:Agree [a,b] h h'):∃ x y,h'=(h.set a x).set b y:=by
 refine ⟨(h'[a]?).getD .none,(h'[b]?).getD .none,?_⟩
 apply List.ext_getElem?
 intro i
 have hl:=ha.1
 by_cases h1:i=b
 ·subst h1
  by_cases h3:i < h.length
  ·rw [List.getElem?_set_self (by rw [List.length_set]; exact h3),List.getElem?_eq_getElem (by omega)]; rfl
  ·rw [List.getElem?_eq_none (by omega),List.getElem?_eq_none (by rw [List.length_set,List.length_set]; omega)]
 ·rw [List.getElem?_set_ne (Ne.symm h1)]
  by_cases h2:i=a
  ·subst h2
   by_cases h3:i < h.length
   ·rw [List.getElem?_set_self h3,List.getElem?_eq_getElem (by omega)]; rfl
   ·rw [List.getElem?_eq_none (by omega),List.getElem?_eq_none (by rw [List.length_set]; omega)]
  ·rw [List.getElem?_set_ne (Ne.symm h2)]
   exact ha.2 i (inN_two h2 h1)
theorem c130i_72 (m : Ms) (s : Sts) (l : Lk) (a b : Int) (hn : m.ns.length ≤ 1048576) (hl : m.ls.length ≤ 1048576) : CallIn Tryz.prog 130 [.d m.d] [.cbox [.slice 1 (strs m.ns), .slice 3 (lks m.ls)], .cbox [.int .i64 s.co, .int .i64 s.nu, .slice 3 (ens s.es)], .cbox [.int .i64 l.a, .int .i64 l.b, .int .i64 l.c], .box [.nils 1, .nils 3], .box [.d (.int .i64 0), .d (.int .i64 0), .nils 3], .row 3 1 [.int .i64 a, .int .i64 b] false, .none, .none, .none, .none, .none, .none, .none, .none, .none] (.agg [.sl 11 (strs m.ns).length, .sl 13 (lks m.ls).length])
  (setAll [.cbox [.slice 1 (strs m.ns),.slice 3 (lks m.ls)],.cbox [.int .i64 s.co,.int .i64 s.nu,.slice 3 (ens s.es)],.cbox [.int .i64 l.a,.int .i64 l.b,.int .i64 l.c],.box [.nils 1,.nils 3],.box [.d (.int .i64 0),.d (.int .i64 0),.nils 3],.row 3 1 [.int .i64 a,.int .i64 b] false,.none,.none,.none,.none,.none,.none,.none,.none,.none] [(9,.cbox [.slice 1 (strs m.ns),.slice 3 (lks m.ls)]),(10,.box [.sl 11 (strs m.ns).length,.sl 13 (lks m.ls).length]),(11,.row 9 1 (strs m.ns) false),(13,.row 114 3 (lks m.ls) false)]):=by
 have hsl:=strs_len m.ns
 have hll:=lks_len m.ls
 have hel:=ens_len s.es
 refine callIn_of_vc 9 (x:=ir130) (by kernel_rfl) rfl rfl rfl ?_
 refine sd ?_
 refine sd ?_
 refine an ?_ ?_
 refine an ?_ ?_
 exact rfl
 refine an ?_ ?_
 exact rfl
 refine an ?_ ?_
 exact rfl
 refine an ?_ ?_
 (show ((0:Nat)+List.length (strs (Ms.ns m))) * (16:Nat)≤(2:Nat) ^ (47:Nat); omega)
 (show (0:Nat)+List.length (strs (Ms.ns m))≤(2:Nat) ^ (47:Nat); omega)
 refine sd ?_
 refine sd ?_
 refine an ?_ ?_
 refine an ?_ ?_
 exact rfl
 refine an ?_ ?_
 exact rfl
 refine an ?_ ?_
 exact rfl
 refine an ?_ ?_
 (show ((0:Nat)+List.length (lks (Ms.ls m))) * (24:Nat)≤(2:Nat) ^ (47:Nat); omega)
 (show (0:Nat)+List.length (lks (Ms.ls m))≤(2:Nat) ^ (47:Nat); omega)
 refine sd ?_
 refine sd ?_
 refine sd ?_
 exact rfl
theorem c130x_73 (m:Ms) (s:Sts) (a b c d q z:Int) (hn:m.ns.length≤1048576) (hl:m.ls.length≤1048576) (h':List AObj) (ha:Agree [5,6] [.cbox [.slice 1 (strs m.ns),.slice 3 (lks m.ls)],.cbox [.int .i64 s.co,.int .i64 s.nu,.slice 3 (ens s.es)],.box [.nils 1,.nils 3],.box [.d (.int .i64 0),.d (.int .i64 0),.nils 3],.row 3 1 [.int .i64 a,.int .i64 b,.int .i64 c,.int .i64 d,.int .i64 q,.int .i64 z] false,.none,.none,.none,.none,.none,.none,.none,.none,.none,.none,.none,.none,.none,.none,.none,.none,.none,.none] h'):CallIn Tryz.prog 130 [.d m.d] h' (.agg [.sl 15 (strs m.ns).length,.sl 17 (lks m.ls).length]) (setAll h' [(13,.cbox [.slice 1 (strs m.ns),.slice 3 (lks m.ls)]),(14,.box [.sl 15 (strs m.ns).length,.sl 17 (lks m.ls).length]),(15,.row 9 1 (strs m.ns) false),(17,.row 114 3 (lks m.ls) false)]):=by
 have hsl:=strs_len m.ns
 have hll:=lks_len m.ls
 have hel:=ens_len s.es
 refine Exists.elim (agree_two (a:=5) (b:=6) ha) fun x ⟨y,hxy⟩=>?_
 rw [hxy]
 refine callIn_of_vc 13 (x:=ir130x) (by kernel_rfl) rfl (by cases x <;> cases y <;> rfl) (by cases x <;> cases y <;> rfl) ?_
 cases x <;> cases y
 all_goals (refine sd ?_
            refine sd ?_
            refine an ?_ ?_
            refine an ?_ ?_
            exact rfl
            refine an ?_ ?_
            exact rfl
            refine an ?_ ?_
            exact rfl
            refine an ?_ ?_
            (show ((0:Nat)+List.length (strs (Ms.ns m))) * (16:Nat)≤(2:Nat) ^ (47:Nat); omega)
            (show (0:Nat)+List.length (strs (Ms.ns m))≤(2:Nat) ^ (47:Nat); omega)
            refine sd ?_
            refine sd ?_
            refine an ?_ ?_
            refine an ?_ ?_
            exact rfl
            refine an ?_ ?_
            exact rfl
            refine an ?_ ?_
            exact rfl
            refine an ?_ ?_
            (show ((0:Nat)+List.length (lks (Ms.ls m))) * (24:Nat)≤(2:Nat) ^ (47:Nat); omega)
            (show (0:Nat)+List.length (lks (Ms.ls m))≤(2:Nat) ^ (47:Nat); omega)
            refine sd ?_
            refine sd ?_
            refine sd ?_
            exact rfl
 )
theorem c103x_73 (m:Ms) (s:Sts) (a b c d q z:Int) (hn:s.es.length≤1048576) (h':List AObj) (ha:Agree [5,6] [.cbox [.slice 1 (strs m.ns),.slice 3 (lks m.ls)],.cbox [.int .i64 s.co,.int .i64 s.nu,.slice 3 (ens s.es)],.box [.nils 1,.nils 3],.box [.d (.int .i64 0),.d (.int .i64 0),.nils 3],.row 3 1 [.int .i64 a,.int .i64 b,.int .i64 c,.int .i64 d,.int .i64 q,.int .i64 z] false,.none,.none,.none,.none,.none,.none,.none,.none,.cbox [.slice 1 (strs m.ns),.slice 3 (lks m.ls)],.box [.sl 15 (strs m.ns).length,.sl 17 (lks m.ls).length],.row 9 1 (strs m.ns) false,.none,.row 114 3 (lks m.ls) false,.none,.none,.none,.none,.none] h'):CallIn Tryz.prog 103 [.d s.d] h' (.agg [.d (.int .i64 s.co),.d (.int .i64 s.nu),.sl 21 (ens s.es).length]) (setAll h' [(19,.box [.d (.int .i64 s.co),.d (.int .i64 s.nu),.sl 21 (ens s.es).length]),(20,.box [.d (.int .i64 s.co),.d (.int .i64 s.nu),.sl 21 (ens s.es).length]),(21,.row 106 3 (ens s.es) false)]):=by
 have hsl:=strs_len m.ns
 have hll:=lks_len m.ls
 have hel:=ens_len s.es
 refine Exists.elim (agree_two (a:=5) (b:=6) ha) fun x ⟨y,hxy⟩=>?_
 rw [hxy]
 refine callIn_of_vc 19 (x:=ir103x) (by kernel_rfl) rfl (by cases x <;> cases y <;> rfl) (by cases x <;> cases y <;> rfl) ?_
 cases x <;> cases y
 all_goals (refine sd ?_
            refine sd ?_
            refine an ?_ ?_
            refine an ?_ ?_
            exact rfl
            refine an ?_ ?_
            exact rfl
            refine an ?_ ?_
            exact rfl
            refine an ?_ ?_
            (show ((0:Nat)+List.length (ens (Sts.es s))) * (24:Nat)≤(2:Nat) ^ (47:Nat); omega)
            (show (0:Nat)+List.length (ens (Sts.es s))≤(2:Nat) ^ (47:Nat); omega)
            refine sd ?_
            refine sd ?_
            exact rfl
 )
def lkRE (m:Ms) (l:Lk):Int:=firstOf [linkE m.ns.length m.ls l,bif decide (128≤(m.ls.length:Int)) then 5 else 0]
theorem c72 (m:Ms) (s:Sts) (l:Lk) (hm:m.ns.length≤1048576) (hl2:m.ls.length≤1048576) (hn:s.es.length≤1048576):CallDet Tryz.prog 72 [.d m.d,.d s.d,.d (.agg [.int .i64 l.a,.int .i64 l.b,.int .i64 l.c])] [(bif lkRE m l != 0 then Ms.zero else m.plus l).d,(bif lkRE m l != 0 then Sts.zero else s).d,.int .i64 (lkRE m l)]:=by
 have hsl:=strs_len m.ns
 have hll:=lks_len m.ls
 have hE:firstOf [linkE m.ns.length m.ls l,bif decide (128≤((lks m.ls).length:Int)) then 5 else 0]=lkRE m l:=by rw [hll]; rfl
 have bad:∀ v,lkRE m l=v→¬ v=0→resV [.agg [.slice 1 [],.slice 3 []],.agg [.int .i64 0,.int .i64 0,.slice 3 []],.int .i64 v]=resV [(bif lkRE m l != 0 then Ms.zero else m.plus l).d,(bif lkRE m l != 0 then Sts.zero else s).d,.int .i64 (lkRE m l)]:=fun v e h=>by
  rw [e,show (v != 0)=true by rw [bne_iff_ne]; exact h]; rfl
 have fin:lkRE m l=0→∀ X,X=lks (m.plus l).ls→resV [.agg [.slice 1 (strs m.ns),.slice 3 X],s.d,.int .i64 0]=resV [(bif lkRE m l != 0 then Ms.zero else m.plus l).d,(bif lkRE m l != 0 then Sts.zero else s).d,.int .i64 (lkRE m l)]:=fun h X hX=>by rw [h,hX]; rfl
 refine call_of_vc (x:=ir72) (by kernel_rfl) rfl ?_
 refine ca (c94 m l hl2) ?_
 refine sd ?_
 refine ca (c49 _ _) ?_
 refine sd ?_
 refine sd ?_
 refine ca (c100 [linkE (↑(List.length (Ms.ns m)):Int) (Ms.ls m) l,bif decide ((128:Int)≤(↑(List.length (lks (Ms.ls m))):Int)) then (5:Int) else (0:Int)] (by simp)) ?_
 refine sd ?_
 refine b_ne (fun t1=>?_) (fun t1=>?_)
 rotate_left
 refine Exists.intro _ (Exists.intro _ (And.intro (c130i_72 m s l _ _ hm hl2) ?_))
 refine sd ?_
 refine sd ?_
 refine sd ?_
 refine an ?_ ?_
 refine an ?_ ?_
 exact rfl
 refine an ?_ ?_
 exact rfl
 refine an ?_ ?_
 exact rfl
 refine an ?_ ?_
 (show (List.length (lks (Ms.ls m))+(1:Nat)) * (24:Nat)≤(2:Nat) ^ (47:Nat); omega)
 (show List.length (lks (Ms.ls m))+(1:Nat)≤(2:Nat) ^ (47:Nat); omega)
 refine sd ?_
 refine ca (c103 s hn) ?_
 refine sd ?_
 refine sd ?_
 rotate_left
 ·exact bad _ hE.symm t1
 ·refine fin (hE.symm.trans t1) _ ?_
  unfold Ms.plus lks; rw [List.map_append]; rfl
def joRE (m:Ms) (nm:List UInt8) (w c:Int):Int:=firstOf [bif !(isNm nm) then 8 else 0,bif m.ns.contains nm then 9 else 0,m.nodeE w,within3 c 1 100,bif decide (32≤(m.ns.length:Int)) then 5 else 0,bif decide (128≤(m.ls.length:Int)) then 5 else 0]
theorem c73 (m:Ms) (s:Sts) (nm:List UInt8) (w c:Int) (hm:m.ns.length≤1048576) (hl2:m.ls.length≤1048576) (hn:s.es.length≤1048576):CallDet Tryz.prog 73 [.d m.d,.d s.d,.d (.str nm),.d (.int .i64 w),.d (.int .i64 c)] [(bif joRE m nm w c != 0 then Ms.zero else m.joined nm w c).d,(bif joRE m nm w c != 0 then Sts.zero else s.joined).d,.int .i64 (joRE m nm w c)]:=by
 have hl:=ens_len s.es
 have hsl:=strs_len m.ns
 have hll:=lks_len m.ls
 have hE:firstOf [bif !(isNm nm) then 8 else 0,bif m.ns.contains nm then 9 else 0,m.nodeE w,within3 c 1 100,bif decide (32≤((strs m.ns).length:Int)) then 5 else 0,bif decide (128≤((lks m.ls).length:Int)) then 5 else 0]=joRE m nm w c:=by rw [hsl,hll]; rfl
 have bad:∀ v,joRE m nm w c=v→¬ v=0→resV [.agg [.slice 1 [],.slice 3 []],.agg [.int .i64 0,.int .i64 0,.slice 3 []],.int .i64 v]=resV [(bif joRE m nm w c != 0 then Ms.zero else m.joined nm w c).d,(bif joRE m nm w c != 0 then Sts.zero else s.joined).d,.int .i64 (joRE m nm w c)]:=fun v e h=>by
  rw [e,show (v != 0)=true by rw [bne_iff_ne]; exact h]; rfl
 have fin:joRE m nm w c=0→∀ X Y Z,X=strs (m.ns++[nm])→Y=lks (m.joined nm w c).ls→Z=ens s.joined.es→resV [.agg [.slice 1 X,.slice 3 Y],.agg [.int .i64 s.co,.int .i64 s.nu,.slice 3 Z],.int .i64 0]=resV [(bif joRE m nm w c != 0 then Ms.zero else m.joined nm w c).d,(bif joRE m nm w c != 0 then Sts.zero else s.joined).d,.int .i64 (joRE m nm w c)]:=fun e X Y Z hX hY hZ=>by
  rw [e,hX,hY,hZ]; rfl
 refine call_of_vc (x:=ir73) (by kernel_rfl) rfl ?_
 refine ca (c131 nm) ?_
 refine ca (c82 m.ns nm hm) ?_
 refine ca (c49 _ _) ?_
 refine ca (c23 m _) ?_
 refine ca (c101 _ _ _) ?_
 refine sd ?_
 refine ca (c49 _ _) ?_
 refine sd ?_
 refine ca (c49 _ _) ?_
 refine sd ?_
 refine sd ?_
 refine ca (c100 [bif !isNm nm then (8:Int) else (0:Int),bif List.contains (Ms.ns m) nm then (9:Int) else (0:Int),Ms.nodeE m w,within3 c (1:Int) (100:Int),bif decide ((32:Int)≤(↑(List.length (strs (Ms.ns m))):Int)) then (5:Int) else (0:Int),bif decide ((128:Int)≤(↑(List.length (lks (Ms.ls m))):Int)) then (5:Int) else (0:Int)] (by simp)) ?_
 refine sd ?_
 refine b_ne (fun t1=>?_) (fun t1=>?_)
 rotate_left
 refine Exists.intro _ (Exists.intro _ (And.intro (c130x_73 m s _ _ _ _ _ _ hm hl2) ?_))
 refine Exists.intro _ (Exists.intro _ (And.intro (c103x_73 m s _ _ _ _ _ _ hn) ?_))
 refine sd ?_
 refine sd ?_
 refine sd ?_
 refine an ?_ ?_
 refine an ?_ ?_
 exact rfl
 refine an ?_ ?_
 exact rfl
 refine an ?_ ?_
 exact rfl
 refine an ?_ ?_
 (show (List.length (strs (Ms.ns m))+(1:Nat)) * (16:Nat)≤(2:Nat) ^ (47:Nat); omega)
 (show List.length (strs (Ms.ns m))+(1:Nat)≤(2:Nat) ^ (47:Nat); omega)
 refine sd ?_
 refine sd ?_
 refine sd ?_
 refine sd ?_
 refine an ?_ ?_
 refine an ?_ ?_
 exact rfl
 refine an ?_ ?_
 exact rfl
 refine an ?_ ?_
 exact rfl
 refine an ?_ ?_
 (show (List.length (lks (Ms.ls m))+(1:Nat)) * (24:Nat)≤(2:Nat) ^ (47:Nat); omega)
 (show List.length (lks (Ms.ls m))+(1:Nat)≤(2:Nat) ^ (47:Nat); omega)
 refine sd ?_
 refine sd ?_
 refine sd ?_
 refine sd ?_
 refine an ?_ ?_
 refine an ?_ ?_
 exact rfl
 refine an ?_ ?_
 exact rfl
 refine an ?_ ?_
 exact rfl
 refine an ?_ ?_
 (show (List.length (ens (Sts.es s))+(1:Nat)) * (24:Nat)≤(2:Nat) ^ (47:Nat); omega)
 (show List.length (ens (Sts.es s))+(1:Nat)≤(2:Nat) ^ (47:Nat); omega)
 refine sd ?_
 refine sd ?_
 refine sd ?_
 refine sd ?_
 rotate_left
 ·exact bad _ hE.symm t1
 ·refine fin (hE.symm.trans t1) _ _ _ ?_ ?_ ?_
  ·unfold strs; rw [List.map_append]; rfl
  ·unfold Ms.joined lks; rw [List.map_append,hsl]; rfl
  ·unfold Sts.joined ens; rw [List.map_append]; rfl
def elRE (s:Sts) (i:Int):Int:=bif i==s.co then 9 else bif decide (1000000≤s.nu) then 20 else 0
theorem c103i_75 (s : Sts) (i : Int) (hn : s.es.length ≤ 1048576) : CallIn Tryz.prog 103 [.d s.d] [.cbox [.int .i64 s.co, .int .i64 s.nu, .slice 3 (ens s.es)], .box [.d (.int .i64 0), .d (.int .i64 0), .nils 3], .none, .none, .none, .none, .none] (.agg [.d (.int .i64 s.co), .d (.int .i64 s.nu), .sl 5 (ens s.es).length])
  (setAll [.cbox [.int .i64 s.co,.int .i64 s.nu,.slice 3 (ens s.es)],.box [.d (.int .i64 0),.d (.int .i64 0),.nils 3],.none,.none,.none,.none,.none] [(3,.box [.d (.int .i64 s.co),.d (.int .i64 s.nu),.sl 5 (ens s.es).length]),(4,.box [.d (.int .i64 s.co),.d (.int .i64 s.nu),.sl 5 (ens s.es).length]),(5,.row 106 3 (ens s.es) false)]):=by
 have hl:=ens_len s.es
 refine callIn_of_vc 3 (x:=ir103) (by kernel_rfl) rfl rfl rfl ?_
 refine sd ?_
 refine sd ?_
 refine an ?_ ?_
 refine an ?_ ?_
 exact rfl
 refine an ?_ ?_
 exact rfl
 refine an ?_ ?_
 exact rfl
 refine an ?_ ?_
 (show ((0:Nat)+List.length (ens (Sts.es s))) * (24:Nat)≤(2:Nat) ^ (47:Nat); omega)
 (show (0:Nat)+List.length (ens (Sts.es s))≤(2:Nat) ^ (47:Nat); omega)
 refine sd ?_
 refine sd ?_
 exact rfl
theorem c75 (m:Ms) (s:Sts) (i:Int) (g:Good m s) (hi:0≤i∧i < (m.ns.length:Int)):CallDet Tryz.prog 75 [.d s.d,.d (.int .i64 i)] [(bif elRE s i != 0 then Sts.zero else s.elec i).d,.int .i64 (elRE s i)]:=by
 have hl:=ens_len s.es
 have hle:=g.len
 have h32:=(chk_fine g.chk).n32
 have hco:=g.co
 have hnu:=g.nu
 have bad:∀ v,elRE s i=v→¬ v=0→resV [.agg [.int .i64 0,.int .i64 0,.slice 3 []],.int .i64 v]=resV [(bif elRE s i != 0 then Sts.zero else s.elec i).d,.int .i64 (elRE s i)]:=fun v e h=>by
  rw [e,show (v != 0)=true by rw [bne_iff_ne]; exact h]; rfl
 have fin:elRE s i=0→∀ X,X=ens (s.elec i).es→resV [.agg [.int .i64 i,.int .i64 (s.nu+1),.slice 3 X],.int .i64 0]=resV [(bif elRE s i != 0 then Sts.zero else s.elec i).d,.int .i64 (elRE s i)]:=fun h X hX=>by rw [h,hX]; rfl
 have hx:=ens_atI (Sts.at_getI (s:=s) (i:=s.co) (by omega))
 have hE1:((ens s.es).set s.co.toNat (.agg [.int .i64 s.nu,.int .i64 0,.int .i64 (-1)]))=ens (s.es.set s.co.toNat ⟨s.nu,0,-1⟩):=(ens_set s.es s.co.toNat ⟨s.nu,0,-1⟩).symm
 refine Exists.elim (get_lt (s.es.set s.co.toNat ⟨s.nu,0,-1⟩) (k:=i.toNat) (by rw [List.length_set]; omega)) fun y hy=>?_
 have hyd:=ens_atI hy
 rw [← hE1] at hyd
 have hE2:((ens s.es).set s.co.toNat (.agg [.int .i64 s.nu,.int .i64 0,.int .i64 (-1)])).set i.toNat (.agg [.int .i64 (s.nu+1),.int .i64 0,.int .i64 i])=ens (s.elec i).es:=by
  rw [hE1]; exact (ens_set _ i.toNat ⟨s.nu+1,0,i⟩).symm
 refine call_of_vc (x:=ir75) (by kernel_rfl) rfl ?_
 refine sd ?_
 refine b_eq (fun t1=>?_) (fun t1=>?_)
 rotate_left
 refine sd ?_
 refine b_le (fun t2=>?_) (fun t2=>?_)
 rotate_left
 refine Exists.intro _ (Exists.intro _ (And.intro (c103i_75 s i (by omega)) ?_))
 refine ar_add ?_ ?_
 refine an ?_ ?_
 (show (-9223372036854775808:Int)≤Sts.nu s+(1:Int); omega)
 (show Sts.nu s+(1:Int)≤(9223372036854775807:Int); omega)
 refine an ?_ ?_
 refine an ?_ ?_
 exact rfl
 refine an ?_ ?_
 exact rfl
 refine an ?_ ?_
 (show (0:Int)≤Sts.co s; omega)
 (show Sts.co s < (↑(List.length (ens (Sts.es s))):Int); omega)
 refine Exists.intro _ (Exists.intro (Vc.Data.agg [Data.int IntKind.i64 (Sts.nu s),Data.int IntKind.i64 (0:Int),Data.int IntKind.i64 (-1:Int)]) (And.intro (And.intro ?_ (And.intro hx (And.intro rfl (And.intro ?_ (And.intro rfl rfl))))) ?_))
 exact rfl
 (show (0:Nat)+(3:Nat)≤(1:Nat)+(1:Nat)+(1:Nat); omega)
 refine ar_add ?_ ?_
 refine an ?_ ?_
 (show (-9223372036854775808:Int)≤Sts.nu s+(1:Int); omega)
 (show Sts.nu s+(1:Int)≤(9223372036854775807:Int); omega)
 refine an ?_ ?_
 refine an ?_ ?_
 exact rfl
 refine an ?_ ?_
 focus (show List.length (List.set (ens (Sts.es s)) (Int.toNat (Sts.co s)) (Data.agg [Data.int IntKind.i64 (Sts.nu s),Data.int IntKind.i64 (0:Int),Data.int IntKind.i64 (-1:Int)]))=List.length (ens (Sts.es s)); simp only [List.length_replicate,List.length_set,List.length_append,List.length_take,List.length_drop]; done)
 refine an ?_ ?_
 (show (0:Int)≤i; omega)
 (show i < (↑(List.length (ens (Sts.es s))):Int); omega)
 refine Exists.intro _ (Exists.intro (Vc.Data.agg [Data.int IntKind.i64 (Sts.nu s+(1:Int)),Data.int IntKind.i64 (0:Int),Data.int IntKind.i64 i]) (And.intro (And.intro ?_ (And.intro hyd (And.intro rfl (And.intro ?_ (And.intro rfl rfl))))) ?_))
 focus (show List.length (List.set (ens (Sts.es s)) (Int.toNat (Sts.co s)) (Data.agg [Data.int IntKind.i64 (Sts.nu s),Data.int IntKind.i64 (0:Int),Data.int IntKind.i64 (-1:Int)]))=List.length (ens (Sts.es s)); simp only [List.length_replicate,List.length_set,List.length_append,List.length_take,List.length_drop]; done)
 (show (0:Nat)+(3:Nat)≤(1:Nat)+(1:Nat)+(1:Nat); omega)
 refine an ?_ ?_
 focus (show List.length (List.set (List.set (ens (Sts.es s)) (Int.toNat (Sts.co s)) (Data.agg [Data.int IntKind.i64 (Sts.nu s),Data.int IntKind.i64 (0:Int),Data.int IntKind.i64 (-1:Int)])) (Int.toNat i) (Data.agg [Data.int IntKind.i64 (Sts.nu s+(1:Int)),Data.int IntKind.i64 (0:Int),Data.int IntKind.i64 i]))=List.length (ens (Sts.es s)); simp only [List.length_replicate,List.length_set,List.length_append,List.length_take,List.length_drop]; done)
 rotate_left
 ·exact bad _ (by unfold elRE; rw [show (i==s.co)=true by rw [beq_iff_eq]; exact t1]; rfl) (by decide)
 ·exact bad _ (by unfold elRE; rw [show (i==s.co)=false by rw [beq_eq_false_iff_ne]; exact t1,decide_eq_true t2]; rfl) (by decide)
 ·exact fin (by unfold elRE; rw [show (i==s.co)=false by rw [beq_eq_false_iff_ne]; exact t1,decide_eq_false t2]; rfl) _ hE2
end Vc
set_option maxRecDepth 10000
set_option maxHeartbeats 4000000
namespace Vc
open Go Go.Proofs
def ir61:AFun:=⟨24,6,[.cell 2 2 true],
 (.seq
 (.reg [0,1] [⟨some 1,.cbx 0 2 (.tmp 0),none⟩,
 ⟨some 2,.alloc 1 [(.nils 1),(.nils 3)],none⟩])
 (.seq
 (.reg [2] [⟨some 6,.fad 0 (.tmp 1),none⟩,
 ⟨some 7,.ld false 1 (.tmp 6),none⟩,
 ⟨some 8,.build [(.nils 1),(.nils 3)] [(0,1,(.tmp 7))],none⟩,
 ⟨some 3,.alloc 2 [(.nils 1),(.nils 3)],none⟩,
 ⟨none,.st 2 (.tmp 3) (.tmp 8),none⟩])
 (.seq
 (.seq
 (.reg [] [⟨some 9,.fad 1 (.tmp 1),none⟩,
 ⟨some 10,.ld false 1 (.tmp 9),none⟩,
 ⟨some 11,.len (.tmp 10),none⟩,
 ⟨some 12,.mov (.cst (.d (.int .i64 0))),none⟩])
 (.post [2,3] [0,1,2,3,4,5]
 (.block 0
 (.keep [2,3,10,11,12] [0,1,2]
 (.loop
 (.post [2,3,10,11,12] [3,4,5]
 (.seq
 (.reg [] [⟨some 13,.cmp .lss (.tmp 12) (.tmp 11),none⟩])
 (.seq
 (.cond (.tmp 13)
 .skip
 (.exit 0))
 (.seq
 (.block 1
 (.seq
 (.reg [3] [⟨some 14,.ixa 3 (.tmp 10) (.tmp 12),none⟩,
 ⟨some 15,.ld true 3 (.tmp 14),none⟩,
 ⟨some 5,.alloc 3 [(.d (.int .i64 0)),(.d (.int .i64 0)),(.d (.int .i64 0))],none⟩,
 ⟨none,.st 3 (.tmp 5) (.tmp 15),none⟩])
 (.reg [4,5] [⟨some 16,.fad 1 (.tmp 3),none⟩,
 ⟨some 17,.ld false 1 (.tmp 16),none⟩,
 ⟨some 18,.ld true 3 (.tmp 5),none⟩,
 ⟨some 19,.bsl 4 114 3 1 [(.agg [(.int .i64 0),(.int .i64 0),(.int .i64 0)])] [(0,(.tmp 18))],none⟩,
 ⟨some 20,.app 5 114 3 24 (.tmp 17) (.tmp 19),none⟩,
 ⟨some 21,.fad 1 (.tmp 3),none⟩,
 ⟨none,.st 1 (.tmp 21) (.tmp 20),none⟩])))
 (.reg [] [⟨some 22,.arith .add .i64 (.tmp 12) (.cst (.d (.int .i64 1))),none⟩,
 ⟨some 12,.mov (.tmp 22),none⟩]))))))))))
 (.seq
 (.reg [] [⟨some 23,.ld true 2 (.tmp 3),none⟩,
 ⟨none,.st 2 (.tmp 2) (.tmp 23),none⟩])
 .ret))))⟩
def ir81:AFun:=⟨39,2,[.tmp 4],
 (.seq
 (.reg [0,1] [⟨some 2,.cbx 0 2 (.tmp 0),none⟩,
 ⟨some 3,.cbx 1 2 (.tmp 1),none⟩,
 ⟨some 4,.mov (.cst (.d (.bool false))),none⟩])
 (.seq
 (.seq
 (.reg [] [⟨some 6,.fad 0 (.tmp 2),none⟩,
 ⟨some 7,.ld false 1 (.tmp 6),none⟩,
 ⟨some 8,.fad 0 (.tmp 3),none⟩,
 ⟨some 9,.ld false 1 (.tmp 8),none⟩,
 ⟨some 10,.call 142 [(.tmp 7),(.tmp 9)],none⟩,
 ⟨some 11,.not (.tmp 10),none⟩,
 ⟨some 12,.mov (.tmp 11),none⟩,
 ⟨some 13,.fad 1 (.tmp 2),some (12,false)⟩,
 ⟨some 14,.ld false 1 (.tmp 13),some (12,false)⟩,
 ⟨some 15,.len (.tmp 14),some (12,false)⟩,
 ⟨some 16,.fad 1 (.tmp 3),some (12,false)⟩,
 ⟨some 17,.ld false 1 (.tmp 16),some (12,false)⟩,
 ⟨some 18,.len (.tmp 17),some (12,false)⟩,
 ⟨some 19,.cmp .neq (.tmp 15) (.tmp 18),some (12,false)⟩,
 ⟨some 20,.pick (.tmp 12) (.cst (.d (.bool true))) (.tmp 19),none⟩])
 (.cond (.tmp 20)
 (.seq
 (.reg [] [⟨some 4,.mov (.cst (.d (.bool false))),none⟩])
 .ret)
 .skip))
 (.seq
 (.seq
 (.reg [] [⟨some 5,.mov (.cst (.d (.int .i64 0))),none⟩])
 (.post [] [0,1]
 (.block 0
 (.keep [2,3,5] [0,1]
 (.loop
 (.post [2,3,5] []
 (.seq
 (.seq
 (.reg [] [⟨some 21,.mov (.tmp 5),none⟩,
 ⟨some 22,.fad 1 (.tmp 2),none⟩,
 ⟨some 23,.ld false 1 (.tmp 22),none⟩,
 ⟨some 24,.len (.tmp 23),none⟩,
 ⟨some 25,.cmp .lss (.tmp 21) (.tmp 24),none⟩])
 (.cond (.tmp 25)
 .skip
 (.exit 0)))
 (.seq
 (.block 1
 (.seq
 (.regd [] [⟨some 28,.fad 1 (.tmp 2),none⟩,
 ⟨some 29,.ld false 1 (.tmp 28),none⟩,
 ⟨some 30,.mov (.tmp 5),none⟩,
 ⟨some 31,.ixa 3 (.tmp 29) (.tmp 30),none⟩,
 ⟨some 32,.ld true 3 (.tmp 31),none⟩,
 ⟨some 33,.fad 1 (.tmp 3),none⟩,
 ⟨some 34,.ld false 1 (.tmp 33),none⟩,
 ⟨some 35,.mov (.tmp 5),none⟩,
 ⟨some 36,.ixa 3 (.tmp 34) (.tmp 35),none⟩,
 ⟨some 37,.ld true 3 (.tmp 36),none⟩,
 ⟨some 38,.aeq true [0,0,0] (.tmp 32) (.tmp 37),none⟩] [(0,2),(1,2),(0,5),(1,5),(2,5),(3,5),(4,5),(0,6),(1,6),(2,6),(3,6),(4,6),(0,7),(1,7),(2,7),(3,7),(4,7),(5,7),(6,7),(0,8),(1,8),(2,8),(3,8),(4,8),(0,9),(1,9),(2,9),(3,9),(4,9)])
 (.cond (.tmp 38)
 (.seq
 (.reg [] [⟨some 4,.mov (.cst (.d (.bool false))),none⟩])
 .ret)
 .skip)))
 (.reg [] [⟨some 26,.mov (.tmp 5),none⟩,
 ⟨some 27,.arith .add .i64 (.tmp 26) (.cst (.d (.int .i64 1))),none⟩,
 ⟨some 5,.mov (.tmp 27),none⟩])))))))))
 (.seq
 (.reg [] [⟨some 4,.mov (.cst (.d (.bool true))),none⟩])
 .ret))))⟩
def ir142:AFun:=⟨26,0,[.tmp 4],
 (.seq
 (.reg [] [⟨some 4,.mov (.cst (.d (.bool false))),none⟩])
 (.seq
 (.seq
 (.reg [] [⟨some 6,.mov (.tmp 0),none⟩,
 ⟨some 7,.len (.tmp 6),none⟩,
 ⟨some 8,.mov (.tmp 1),none⟩,
 ⟨some 9,.len (.tmp 8),none⟩,
 ⟨some 10,.cmp .neq (.tmp 7) (.tmp 9),none⟩])
 (.cond (.tmp 10)
 (.seq
 (.reg [] [⟨some 4,.mov (.cst (.d (.bool false))),none⟩])
 .ret)
 .skip))
 (.seq
 (.seq
 (.reg [] [⟨some 5,.mov (.cst (.d (.int .i64 0))),none⟩])
 (.post [] []
 (.block 0
 (.keep [0,1,5] []
 (.loop
 (.post [0,1,5] []
 (.seq
 (.seq
 (.reg [] [⟨some 11,.mov (.tmp 5),none⟩,
 ⟨some 12,.mov (.tmp 0),none⟩,
 ⟨some 13,.len (.tmp 12),none⟩,
 ⟨some 14,.cmp .lss (.tmp 11) (.tmp 13),none⟩])
 (.cond (.tmp 14)
 .skip
 (.exit 0)))
 (.seq
 (.block 1
 (.seq
 (.regd [] [⟨some 17,.mov (.tmp 0),none⟩,
 ⟨some 18,.mov (.tmp 5),none⟩,
 ⟨some 19,.ixa 1 (.tmp 17) (.tmp 18),none⟩,
 ⟨some 20,.ld false 1 (.tmp 19),none⟩,
 ⟨some 21,.mov (.tmp 1),none⟩,
 ⟨some 22,.mov (.tmp 5),none⟩,
 ⟨some 23,.ixa 1 (.tmp 21) (.tmp 22),none⟩,
 ⟨some 24,.ld false 1 (.tmp 23),none⟩,
 ⟨some 25,.seq true (.tmp 20) (.tmp 24),none⟩] [(0,1),(0,4),(1,4),(2,4),(3,4),(0,5),(1,5),(2,5),(3,5),(4,5),(0,6),(1,6),(2,6),(3,6),(0,7),(1,7),(2,7),(3,7)])
 (.cond (.tmp 25)
 (.seq
 (.reg [] [⟨some 4,.mov (.cst (.d (.bool false))),none⟩])
 .ret)
 .skip)))
 (.reg [] [⟨some 15,.mov (.tmp 5),none⟩,
 ⟨some 16,.arith .add .i64 (.tmp 15) (.cst (.d (.int .i64 1))),none⟩,
 ⟨some 5,.mov (.tmp 16),none⟩])))))))))
 (.seq
 (.reg [] [⟨some 4,.mov (.cst (.d (.bool true))),none⟩])
 .ret))))⟩
def ir76:AFun:=⟨27,4,[.tmp 12],
 (.seq
 (.reg [0,1,2,3] [⟨some 6,.cbx 0 2 (.tmp 0),none⟩,
 ⟨some 7,.cbx 1 3 (.tmp 1),none⟩,
 ⟨some 10,.box 2 2 (.tmp 4),none⟩,
 ⟨some 11,.cbx 3 3 (.tmp 5),none⟩,
 ⟨some 12,.mov (.cst (.d (.bool false))),none⟩])
 (.seq
 (.seq
 (.reg [] [⟨some 13,.mov (.tmp 3),none⟩,
 ⟨some 14,.cmp .neq (.tmp 13) (.cst (.d (.int .i64 0))),none⟩])
 (.cond (.tmp 14)
 (.reg [] [⟨some 15,.build [(.nils 1),(.nils 3)] [],none⟩,
 ⟨none,.st 2 (.tmp 10) (.tmp 15),none⟩])
 .skip))
 (.seq
 (.regd [] [⟨some 16,.ld true 2 (.tmp 6),none⟩,
 ⟨some 17,.call 61 [(.tmp 16)],none⟩,
 ⟨some 18,.ld true 2 (.tmp 10),none⟩,
 ⟨some 19,.call 81 [(.tmp 17),(.tmp 18)],none⟩,
 ⟨some 20,.mov (.tmp 19),none⟩,
 ⟨some 21,.ld true 3 (.tmp 7),some (20,true)⟩,
 ⟨some 22,.mov (.tmp 2),some (20,true)⟩,
 ⟨some 23,.mov (.tmp 3),some (20,true)⟩,
 ⟨some 24,.ld true 3 (.tmp 11),some (20,true)⟩,
 ⟨some 25,.call 38 [(.tmp 21),(.tmp 22),(.tmp 23),(.tmp 24)],some (20,true)⟩,
 ⟨some 26,.pick (.tmp 20) (.tmp 25) (.cst (.d (.bool false))),none⟩,
 ⟨some 12,.mov (.tmp 26),none⟩] [(0,2),(1,2),(5,6),(5,7),(6,7),(5,8),(6,8),(7,8)])
 .ret)))⟩
theorem c130x_74 (m:Ms) (s:Sts) (l:Lk) (hn:m.ns.length≤1048576) (hl:m.ls.length≤1048576) (h':List AObj) (ha:Agree [5,6] [.cbox [.slice 1 (strs m.ns),.slice 3 (lks m.ls)],.cbox [.int .i64 s.co,.int .i64 s.nu,.slice 3 (ens s.es)],.box [.nils 1,.nils 3],.box [.d (.int .i64 0),.d (.int .i64 0),.nils 3],.box [.d (.int .i64 l.a),.d (.int .i64 l.b),.d (.int .i64 l.c)],.none,.none,.none,.none,.none,.none,.none,.none,.none,.none,.none,.none,.none,.none,.none] h'):CallIn Tryz.prog 130 [.d m.d] h' (.agg [.sl 12 (strs m.ns).length,.sl 14 (lks m.ls).length]) (setAll h' [(10,.cbox [.slice 1 (strs m.ns),.slice 3 (lks m.ls)]),(11,.box [.sl 12 (strs m.ns).length,.sl 14 (lks m.ls).length]),(12,.row 9 1 (strs m.ns) false),(14,.row 114 3 (lks m.ls) false)]):=by
 have hsl:=strs_len m.ns
 have hll:=lks_len m.ls
 have hel:=ens_len s.es
 refine Exists.elim (agree_two (a:=5) (b:=6) ha) fun x ⟨y,hxy⟩=>?_
 rw [hxy]
 refine callIn_of_vc 10 (x:=ir130x) (by kernel_rfl) rfl (by cases x <;> cases y <;> rfl) (by cases x <;> cases y <;> rfl) ?_
 cases x <;> cases y
 all_goals (refine sd ?_
            refine sd ?_
            refine an ?_ ?_
            refine an ?_ ?_
            exact rfl
            refine an ?_ ?_
            exact rfl
            refine an ?_ ?_
            exact rfl
            refine an ?_ ?_
            (show ((0:Nat)+List.length (strs (Ms.ns m))) * (16:Nat)≤(2:Nat) ^ (47:Nat); omega)
            (show (0:Nat)+List.length (strs (Ms.ns m))≤(2:Nat) ^ (47:Nat); omega)
            refine sd ?_
            refine sd ?_
            refine an ?_ ?_
            refine an ?_ ?_
            exact rfl
            refine an ?_ ?_
            exact rfl
            refine an ?_ ?_
            exact rfl
            refine an ?_ ?_
            (show ((0:Nat)+List.length (lks (Ms.ls m))) * (24:Nat)≤(2:Nat) ^ (47:Nat); omega)
            (show (0:Nat)+List.length (lks (Ms.ls m))≤(2:Nat) ^ (47:Nat); omega)
            refine sd ?_
            refine sd ?_
            refine sd ?_
            exact rfl
 )
theorem c103x_74 (m:Ms) (s:Sts) (l:Lk) (hn:s.es.length≤1048576) (h':List AObj) (ha:Agree [5,6] [.cbox [.slice 1 (strs m.ns),.slice 3 (lks m.ls)],.cbox [.int .i64 s.co,.int .i64 s.nu,.slice 3 (ens s.es)],.box [.nils 1,.nils 3],.box [.d (.int .i64 0),.d (.int .i64 0),.nils 3],.box [.d (.int .i64 l.a),.d (.int .i64 l.b),.d (.int .i64 l.c)],.none,.none,.none,.none,.none,.cbox [.slice 1 (strs m.ns),.slice 3 (lks m.ls)],.box [.sl 12 (strs m.ns).length,.sl 14 (lks m.ls).length],.row 9 1 (strs m.ns) false,.none,.row 114 3 (lks m.ls) false,.none,.none,.none,.none,.none] h'):CallIn Tryz.prog 103 [.d s.d] h' (.agg [.d (.int .i64 s.co),.d (.int .i64 s.nu),.sl 18 (ens s.es).length]) (setAll h' [(16,.box [.d (.int .i64 s.co),.d (.int .i64 s.nu),.sl 18 (ens s.es).length]),(17,.box [.d (.int .i64 s.co),.d (.int .i64 s.nu),.sl 18 (ens s.es).length]),(18,.row 106 3 (ens s.es) false)]):=by
 have hsl:=strs_len m.ns
 have hll:=lks_len m.ls
 have hel:=ens_len s.es
 refine Exists.elim (agree_two (a:=5) (b:=6) ha) fun x ⟨y,hxy⟩=>?_
 rw [hxy]
 refine callIn_of_vc 16 (x:=ir103x) (by kernel_rfl) rfl (by cases x <;> cases y <;> rfl) (by cases x <;> cases y <;> rfl) ?_
 cases x <;> cases y
 all_goals (refine sd ?_
            refine sd ?_
            refine an ?_ ?_
            refine an ?_ ?_
            exact rfl
            refine an ?_ ?_
            exact rfl
            refine an ?_ ?_
            exact rfl
            refine an ?_ ?_
            (show ((0:Nat)+List.length (ens (Sts.es s))) * (24:Nat)≤(2:Nat) ^ (47:Nat); omega)
            (show (0:Nat)+List.length (ens (Sts.es s))≤(2:Nat) ^ (47:Nat); omega)
            refine sd ?_
            refine sd ?_
            exact rfl
 )
theorem c74 (m:Ms) (s:Sts) (i:Int) (g:Good m s) (h0:0≤i) (h1:i < (m.ls.length:Int)):CallDet Tryz.prog 74 [.d m.d,.d s.d,.d (.int .i64 i)] [(m.brok i).d,(s.brok m i).d]:=by
 have hf:=chk_fine g.chk
 have hl:=ens_len s.es
 have hsl:=strs_len m.ns
 have hll:=lks_len m.ls
 have hle:=g.len
 have h32:=hf.n32
 have h128:=hf.l128
 refine Exists.elim (get_lt m.ls (k:=i.toNat) (by omega)) fun l hlk=>?_
 have hlI:(lks m.ls)[i.toNat]?=some (.agg [.int .i64 l.a,.int .i64 l.b,.int .i64 l.c]):=by
  have h:=lks_at hlk
  rwa [show ((i.toNat:Nat):Int).toNat=i.toNat from rfl] at h
 have hin:=hf.okIn l (List.mem_of_getElem? hlk)
 have hab:l.a < l.b:=hf.asc l (List.mem_of_getElem? hlk)
 refine Exists.elim (get_lt s.es (k:=l.a.toNat) (by have:=hin.na; omega)) fun x hx=>?_
 refine Exists.elim (get_lt (cut1 s.es l.a l.b) (k:=l.b.toNat) (by rw [cut1_len]; have:=hin.nb; omega)) fun y hy=>?_
 have hya:s.es[l.b.toNat]?=some y:=by rw [← hy,cut1_ne]; have:=hin.1; have:=hin.2.1; omega
 have hxd:=ens_atI hx
 have hyd:=ens_atI hy
 have hyd0:=ens_atI hya
 have hina:=hin.1
 have hinb:=hin.2.1
 have eL:([]:List Data)++List.drop (Int.toNat 0) (List.take i.toNat (lks m.ls))++List.drop (i+1).toNat (List.take (((lks m.ls).length:Int)).toNat (lks m.ls))=lks (m.brok i).ls:=by
  show List.drop 0 (List.take i.toNat (lks m.ls))++List.drop (i+1).toNat (List.take (lks m.ls).length (lks m.ls))=_
  rw [List.drop_zero,List.take_length,show (i+1).toNat=i.toNat+1 by omega,← List.eraseIdx_eq_take_drop_succ]; exact lks_erase m.ls i.toNat
 have hq:(([]:List Data)++List.drop (Int.toNat 0) (List.take i.toNat (lks m.ls))).length+(List.drop (i+1).toNat (List.take (((lks m.ls).length:Int)).toNat (lks m.ls))).length≤128:=by
  have h:=congrArg List.length eL
  rw [List.length_append] at h
  rw [h,lks_len]
  unfold Ms.brok
  have:=List.length_eraseIdx_le m.ls i.toNat
  show (m.ls.eraseIdx i.toNat).length≤128
  omega
 have fin:∀ X Y,X=lks (m.brok i).ls→Y=ens (cut2 s.es l)→resV [.agg [.slice 1 (strs m.ns),.slice 3 X],.agg [.int .i64 s.co,.int .i64 s.nu,.slice 3 Y]]=resV [(m.brok i).d,(s.brok m i).d]:=fun X Y hX hY=>by
  rw [hX,hY]
  unfold Sts.brok
  rw [hlk]; rfl
 have c1y:x.ne=l.b→cut1 s.es l.a l.b=s.es.set l.a.toNat ⟨x.nu,x.di,-1⟩:=fun h=>cut1_yes hx h
 have c1n:¬ x.ne=l.b→cut1 s.es l.a l.b=s.es:=fun h=>cut1_no hx h
 have c2y:y.ne=l.a→cut2 s.es l=(cut1 s.es l.a l.b).set l.b.toNat ⟨y.nu,y.di,-1⟩:=fun h=>cut1_yes hy h
 have c2n:¬ y.ne=l.a→cut2 s.es l=cut1 s.es l.a l.b:=fun h=>cut1_no hy h
 refine call_of_vc (x:=ir74) (by kernel_rfl) rfl ?_
 by_cases e1:x.ne=l.b
 ·have hyd1 : ((ens s.es).set l.a.toNat (.agg [.int .i64 x.nu, .int .i64 x.di, .int .i64 (-1)]))[l.b.toNat]? = some (.agg [.int .i64 y.nu, .int .i64 y.di, .int .i64 y.ne]) := by
   rw [List.getElem?_set_ne (by omega)]; exact hyd0
  refine ix_at hlI ?_ ?_
  assumption
  refine Exists.intro _ (Exists.intro _ (And.intro (c130x_74 m s l (by omega) (by omega)) ?_))
  refine Exists.intro _ (Exists.intro _ (And.intro (c103x_74 m s l (by omega)) ?_))
  refine sd ?_
  refine an ?_ ?_
  refine an ?_ ?_
  exact rfl
  refine an ?_ ?_
  (show (0:Int)≤(0:Int); omega)
  refine an ?_ ?_
  assumption
  (show i≤(↑(List.length (lks (Ms.ls m))):Int); omega)
  refine sd ?_
  refine an ?_ ?_
  refine an ?_ ?_
  exact rfl
  refine an ?_ ?_
  exact rfl
  refine an ?_ ?_
  exact rfl
  refine an ?_ ?_
  (show ((0:Nat)+List.length (List.drop (Int.toNat (0:Int)) (List.take (Int.toNat i) (lks (Ms.ls m))))) * (24:Nat)≤(2:Nat) ^ (47:Nat); simp only [List.length_replicate,List.length_set,List.length_append,List.length_take,List.length_drop]; omega)
  (show (0:Nat)+List.length (List.drop (Int.toNat (0:Int)) (List.take (Int.toNat i) (lks (Ms.ls m))))≤(2:Nat) ^ (47:Nat); simp only [List.length_replicate,List.length_set,List.length_append,List.length_take,List.length_drop]; omega)
  refine ar_add ?_ ?_
  refine an ?_ ?_
  (show (-9223372036854775808:Int)≤i+(1:Int); omega)
  (show i+(1:Int)≤(9223372036854775807:Int); omega)
  refine an ?_ ?_
  refine an ?_ ?_
  exact rfl
  refine an ?_ ?_
  (show (0:Int)≤i+(1:Int); omega)
  refine an ?_ ?_
  (show i+(1:Int)≤(↑(List.length (lks (Ms.ls m))):Int); omega)
  (show (↑(List.length (lks (Ms.ls m))):Int)≤(↑(List.length (lks (Ms.ls m))):Int); omega)
  refine sd ?_
  refine an ?_ ?_
  refine an ?_ ?_
  exact rfl
  refine an ?_ ?_
  exact rfl
  refine an ?_ ?_
  exact rfl
  refine an ?_ ?_
  rotate_left
  rotate_left
  refine sd ?_
  refine an ?_ ?_
  refine an ?_ ?_
  exact rfl
  refine an ?_ ?_
  exact rfl
  refine an ?_ ?_
  (show (0:Int)≤Lk.a l; omega)
  (show Lk.a l < (↑(List.length (ens (Sts.es s))):Int); omega)
  refine sd ?_
  refine sd ?_
  refine ca hxd ?_
  refine sd ?_
  refine b_eq (fun t1=>?_) (fun t1=>?_)
  refine an ?_ ?_
  refine an ?_ ?_
  exact rfl
  refine an ?_ ?_
  exact rfl
  refine an ?_ ?_
  (show (0:Int)≤Lk.a l; omega)
  (show Lk.a l < (↑(List.length (ens (Sts.es s))):Int); omega)
  refine sd ?_
  refine Exists.intro _ (Exists.intro (Vc.Data.agg [Data.int IntKind.i64 (En.nu x),Data.int IntKind.i64 (En.di x),Data.int IntKind.i64 (-1:Int)]) (And.intro (And.intro ?_ (And.intro hxd (And.intro rfl (And.intro ?_ (And.intro rfl rfl))))) ?_))
  exact rfl
  (show (0:Nat)+(2:Nat)+(1:Nat)≤(1:Nat)+(1:Nat)+(1:Nat); omega)
  refine an ?_ ?_
  refine an ?_ ?_
  exact rfl
  refine an ?_ ?_
  focus (show List.length (List.set (ens (Sts.es s)) (Int.toNat (Lk.a l)) (Data.agg [Data.int IntKind.i64 (En.nu x),Data.int IntKind.i64 (En.di x),Data.int IntKind.i64 (-1:Int)]))=List.length (ens (Sts.es s)); simp only [List.length_replicate,List.length_set,List.length_append,List.length_take,List.length_drop]; done)
  refine an ?_ ?_
  (show (0:Int)≤Lk.b l; omega)
  (show Lk.b l < (↑(List.length (ens (Sts.es s))):Int); omega)
  refine an ?_ ?_
  focus (show List.length (List.set (ens (Sts.es s)) (Int.toNat (Lk.a l)) (Data.agg [Data.int IntKind.i64 (En.nu x),Data.int IntKind.i64 (En.di x),Data.int IntKind.i64 (-1:Int)]))=List.length (ens (Sts.es s)); simp only [List.length_replicate,List.length_set,List.length_append,List.length_take,List.length_drop]; done)
  refine an ?_ ?_
  focus (show List.length (List.set (ens (Sts.es s)) (Int.toNat (Lk.a l)) (Data.agg [Data.int IntKind.i64 (En.nu x),Data.int IntKind.i64 (En.di x),Data.int IntKind.i64 (-1:Int)]))=List.length (ens (Sts.es s)); simp only [List.length_replicate,List.length_set,List.length_append,List.length_take,List.length_drop]; done)
  refine ca hyd1 ?_
  refine sd ?_
  refine b_eq (fun t2=>?_) (fun t2=>?_)
  refine an ?_ ?_
  refine an ?_ ?_
  exact rfl
  refine an ?_ ?_
  focus (show List.length (List.set (ens (Sts.es s)) (Int.toNat (Lk.a l)) (Data.agg [Data.int IntKind.i64 (En.nu x),Data.int IntKind.i64 (En.di x),Data.int IntKind.i64 (-1:Int)]))=List.length (ens (Sts.es s)); simp only [List.length_replicate,List.length_set,List.length_append,List.length_take,List.length_drop]; done)
  refine an ?_ ?_
  (show (0:Int)≤Lk.b l; omega)
  (show Lk.b l < (↑(List.length (ens (Sts.es s))):Int); omega)
  refine an ?_ ?_
  focus (show List.length (List.set (ens (Sts.es s)) (Int.toNat (Lk.a l)) (Data.agg [Data.int IntKind.i64 (En.nu x),Data.int IntKind.i64 (En.di x),Data.int IntKind.i64 (-1:Int)]))=List.length (ens (Sts.es s)); simp only [List.length_replicate,List.length_set,List.length_append,List.length_take,List.length_drop]; done)
  refine Exists.intro _ (Exists.intro (Vc.Data.agg [Data.int IntKind.i64 (En.nu y),Data.int IntKind.i64 (En.di y),Data.int IntKind.i64 (-1:Int)]) (And.intro (And.intro ?_ (And.intro hyd1 (And.intro rfl (And.intro ?_ (And.intro rfl rfl))))) ?_))
  focus (show List.length (List.set (ens (Sts.es s)) (Int.toNat (Lk.a l)) (Data.agg [Data.int IntKind.i64 (En.nu x),Data.int IntKind.i64 (En.di x),Data.int IntKind.i64 (-1:Int)]))=List.length (ens (Sts.es s)); simp only [List.length_replicate,List.length_set,List.length_append,List.length_take,List.length_drop]; done)
  (show (0:Nat)+(2:Nat)+(1:Nat)≤(1:Nat)+(1:Nat)+(1:Nat); omega)
  refine sd ?_
  refine sd ?_
  refine an ?_ ?_
  focus (show List.length (List.set (List.set (ens (Sts.es s)) (Int.toNat (Lk.a l)) (Data.agg [Data.int IntKind.i64 (En.nu x),Data.int IntKind.i64 (En.di x),Data.int IntKind.i64 (-1:Int)])) (Int.toNat (Lk.b l)) (Data.agg [Data.int IntKind.i64 (En.nu y),Data.int IntKind.i64 (En.di y),Data.int IntKind.i64 (-1:Int)]))=List.length (ens (Sts.es s)); simp only [List.length_replicate,List.length_set,List.length_append,List.length_take,List.length_drop]; done)
  rotate_left
  refine sd ?_
  refine sd ?_
  refine an ?_ ?_
  focus (show List.length (List.set (ens (Sts.es s)) (Int.toNat (Lk.a l)) (Data.agg [Data.int IntKind.i64 (En.nu x),Data.int IntKind.i64 (En.di x),Data.int IntKind.i64 (-1:Int)]))=List.length (ens (Sts.es s)); simp only [List.length_replicate,List.length_set,List.length_append,List.length_take,List.length_drop]; done)
  rotate_left
  (exfalso; omega)
  ·exact Nat.le_trans (Nat.mul_le_mul_right 24 hq) (by decide)
  ·exact Nat.le_trans hq (by decide)
  ·refine fin _ _ eL ?_
   rw [c2y t2,c1y e1,ens_set,ens_set]; rfl
  ·refine fin _ _ eL ?_
   rw [c2n t2,c1y e1,ens_set]; rfl
 ·refine ix_at hlI ?_ ?_
  assumption
  refine Exists.intro _ (Exists.intro _ (And.intro (c130x_74 m s l (by omega) (by omega)) ?_))
  refine Exists.intro _ (Exists.intro _ (And.intro (c103x_74 m s l (by omega)) ?_))
  refine sd ?_
  refine an ?_ ?_
  refine an ?_ ?_
  exact rfl
  refine an ?_ ?_
  (show (0:Int)≤(0:Int); omega)
  refine an ?_ ?_
  assumption
  (show i≤(↑(List.length (lks (Ms.ls m))):Int); omega)
  refine sd ?_
  refine an ?_ ?_
  refine an ?_ ?_
  exact rfl
  refine an ?_ ?_
  exact rfl
  refine an ?_ ?_
  exact rfl
  refine an ?_ ?_
  (show ((0:Nat)+List.length (List.drop (Int.toNat (0:Int)) (List.take (Int.toNat i) (lks (Ms.ls m))))) * (24:Nat)≤(2:Nat) ^ (47:Nat); simp only [List.length_replicate,List.length_set,List.length_append,List.length_take,List.length_drop]; omega)
  (show (0:Nat)+List.length (List.drop (Int.toNat (0:Int)) (List.take (Int.toNat i) (lks (Ms.ls m))))≤(2:Nat) ^ (47:Nat); simp only [List.length_replicate,List.length_set,List.length_append,List.length_take,List.length_drop]; omega)
  refine ar_add ?_ ?_
  refine an ?_ ?_
  (show (-9223372036854775808:Int)≤i+(1:Int); omega)
  (show i+(1:Int)≤(9223372036854775807:Int); omega)
  refine an ?_ ?_
  refine an ?_ ?_
  exact rfl
  refine an ?_ ?_
  (show (0:Int)≤i+(1:Int); omega)
  refine an ?_ ?_
  (show i+(1:Int)≤(↑(List.length (lks (Ms.ls m))):Int); omega)
  (show (↑(List.length (lks (Ms.ls m))):Int)≤(↑(List.length (lks (Ms.ls m))):Int); omega)
  refine sd ?_
  refine an ?_ ?_
  refine an ?_ ?_
  exact rfl
  refine an ?_ ?_
  exact rfl
  refine an ?_ ?_
  exact rfl
  refine an ?_ ?_
  rotate_left
  rotate_left
  refine sd ?_
  refine an ?_ ?_
  refine an ?_ ?_
  exact rfl
  refine an ?_ ?_
  exact rfl
  refine an ?_ ?_
  (show (0:Int)≤Lk.a l; omega)
  (show Lk.a l < (↑(List.length (ens (Sts.es s))):Int); omega)
  refine sd ?_
  refine sd ?_
  refine ca hxd ?_
  refine sd ?_
  refine b_eq (fun t1=>?_) (fun t1=>?_)
  (exfalso; omega)
  refine an ?_ ?_
  refine an ?_ ?_
  exact rfl
  refine an ?_ ?_
  exact rfl
  refine an ?_ ?_
  (show (0:Int)≤Lk.b l; omega)
  (show Lk.b l < (↑(List.length (ens (Sts.es s))):Int); omega)
  refine sd ?_
  refine sd ?_
  refine ca hyd0 ?_
  refine sd ?_
  refine b_eq (fun t2=>?_) (fun t2=>?_)
  refine an ?_ ?_
  refine an ?_ ?_
  exact rfl
  refine an ?_ ?_
  exact rfl
  refine an ?_ ?_
  (show (0:Int)≤Lk.b l; omega)
  (show Lk.b l < (↑(List.length (ens (Sts.es s))):Int); omega)
  refine sd ?_
  refine Exists.intro _ (Exists.intro (Vc.Data.agg [Data.int IntKind.i64 (En.nu y),Data.int IntKind.i64 (En.di y),Data.int IntKind.i64 (-1:Int)]) (And.intro (And.intro ?_ (And.intro hyd0 (And.intro rfl (And.intro ?_ (And.intro rfl rfl))))) ?_))
  exact rfl
  (show (0:Nat)+(2:Nat)+(1:Nat)≤(1:Nat)+(1:Nat)+(1:Nat); omega)
  refine sd ?_
  refine sd ?_
  refine an ?_ ?_
  focus (show List.length (List.set (ens (Sts.es s)) (Int.toNat (Lk.b l)) (Data.agg [Data.int IntKind.i64 (En.nu y),Data.int IntKind.i64 (En.di y),Data.int IntKind.i64 (-1:Int)]))=List.length (ens (Sts.es s)); simp only [List.length_replicate,List.length_set,List.length_append,List.length_take,List.length_drop]; done)
  rotate_left
  refine sd ?_
  refine sd ?_
  refine sd ?_
  rotate_left
  ·exact Nat.le_trans (Nat.mul_le_mul_right 24 hq) (by decide)
  ·exact Nat.le_trans hq (by decide)
  ·refine fin _ _ eL ?_
   rw [c2y t2,c1n e1,ens_set]; rfl
  ·refine fin _ _ eL ?_
   rw [c2n t2,c1n e1]
def tolV (m:Ms):Nat→List (Nat × AObj)
 | 0=>[]
 | k+1=>[(2,.box [.d (.slice 1 (strs m.ns)),.sl 5 (lks (m.ls.take (k+1))).length]),(5,.row 114 3 (lks (m.ls.take (k+1))) false)]
theorem lks_snoc {l:List Lk} {k:Nat} {x:Lk} (h:l[k]?=some x):lks (l.take (k+1))=lks (l.take k)++[.agg [.int .i64 x.a,.int .i64 x.b,.int .i64 x.c]]:=by
 unfold lks; rw [take_one h,List.map_append]; rfl
theorem c61 (m:Ms) (hm:m.ns.length≤1048576) (hl2:m.ls.length≤1048576):CallDet Tryz.prog 61 [.d m.d] [m.d]:=by
 have hl:=lks_len m.ls
 refine call_of_vc (x:=ir61) (by kernel_rfl) rfl ?_
 rotate_left
 refine loop_u (fun k:Nat=>[(12,.d (.int .i64 k))]) (tolV m) (fun k=>k≤m.ls.length) (fun k=>m.ls.length - k) 0 rfl (Nat.zero_le _) ?_
 intro k hk
 have hk:k≤m.ls.length:=hk
 have fin:∀ X,X=lks m.ls→resV [.agg [.slice 1 (strs m.ns),.slice 3 X]]=resV [m.d]:=fun X h=>by rw [h]; rfl
 by_cases hkk:k < m.ls.length
 ·refine Exists.elim (get_lt m.ls hkk) fun x hx=>?_
  have hxd:(lks m.ls)[(k:Int).toNat]?=some (.agg [.int .i64 x.a,.int .i64 x.b,.int .i64 x.c]):=lks_at hx
  have e:=lks_snoc hx
  have ht:=lks_len (m.ls.take k)
  rw [List.length_take] at ht
  cases k with
  | zero =>
   refine sd ?_
   refine b_lt (fun t1=>?_) (fun t1=>?_)
   refine ix_at hxd ?_ ?_
   (show (0:Int)≤(↑(0:Nat):Int); omega)
   refine sd ?_
   refine sd ?_
   refine sd ?_
   refine an ?_ ?_
   refine an ?_ ?_
   (show (1:Nat) * (24:Nat)≤(2:Nat) ^ (47:Nat); omega)
   (show (1:Nat)≤(2:Nat) ^ (47:Nat); omega)
   refine sd ?_
   refine ar_add ?_ ?_
   refine an ?_ ?_
   (show (-9223372036854775808:Int)≤(↑(0:Nat):Int)+(1:Int); omega)
   (show (↑(0:Nat):Int)+(1:Int)≤(9223372036854775807:Int); omega)
   rotate_left
   (exfalso; omega)
   refine ⟨0+1,⟨by show 0+1≤m.ls.length; omega,by show m.ls.length - (0+1) < m.ls.length - 0; omega⟩,?_⟩
   show _=St.upd _ _ [(2,.box [.d (.slice 1 (strs m.ns)),.sl 5 (lks (m.ls.take (0+1))).length]),(5,.row 114 3 (lks (m.ls.take (0+1))) false)]
   rw [e]; rfl
  | succ k =>
   refine sd ?_
   refine b_lt (fun t1=>?_) (fun t1=>?_)
   refine ix_at hxd ?_ ?_
   (show (0:Int)≤(↑(k+(1:Nat)):Int); omega)
   refine sd ?_
   refine sd ?_
   refine sd ?_
   refine an ?_ ?_
   refine an ?_ ?_
   exact rfl
   refine an ?_ ?_
   exact rfl
   refine an ?_ ?_
   exact rfl
   refine an ?_ ?_
   (show (List.length (lks (List.take (k+(1:Nat)) (Ms.ls m)))+(1:Nat)) * (24:Nat)≤(2:Nat) ^ (47:Nat); omega)
   (show List.length (lks (List.take (k+(1:Nat)) (Ms.ls m)))+(1:Nat)≤(2:Nat) ^ (47:Nat); omega)
   refine sd ?_
   refine ar_add ?_ ?_
   refine an ?_ ?_
   (show (-9223372036854775808:Int)≤(↑(k+(1:Nat)):Int)+(1:Int); omega)
   (show (↑(k+(1:Nat)):Int)+(1:Int)≤(9223372036854775807:Int); omega)
   rotate_left
   (exfalso; omega)
   refine ⟨k+1+1,⟨by show k+1+1≤m.ls.length; omega,by show m.ls.length - (k+1+1) < m.ls.length - (k+1); omega⟩,?_⟩
   show _=St.upd _ _ [(2,.box [.d (.slice 1 (strs m.ns)),.sl 5 (lks (m.ls.take (k+1+1))).length]),(5,.row 114 3 (lks (m.ls.take (k+1+1))) false)]
   rw [e]; rfl
 ·have e:lks (m.ls.take k)=lks m.ls:=by rw [List.take_of_length_le (by omega)]
  cases k with
  | zero =>
   refine sd ?_
   refine b_lt (fun t1=>?_) (fun t1=>?_)
   (exfalso; omega)
   rotate_left
   exact fin _ e
  | succ k =>
   refine sd ?_
   refine b_lt (fun t1=>?_) (fun t1=>?_)
   (exfalso; omega)
   refine sd ?_
   rotate_left
   exact fin _ e
theorem c142 (l:List (List UInt8)) (hl:l.length≤1048576):CallDet Tryz.prog 142 [.d (.slice 1 (strs l)),.d (.slice 1 (strs l))] [.bool true]:=by
 have hsl:=strs_len l
 refine call_of_vc (x:=ir142) (by kernel_rfl) rfl ?_
 refine sd ?_
 refine b_ne (fun t1=>?_) (fun t1=>?_)
 (exfalso; omega)
 rotate_left
 refine loop_u (fun k:Nat=>[(5,.d (.int .i64 k))]) (fun k=>[]) (fun k=>k≤l.length) (fun k=>l.length - k) 0 rfl (Nat.zero_le _) ?_
 intro k hk
 have hk:k≤l.length:=hk
 by_cases hkk:k < l.length
 ·refine Exists.elim (get_lt l hkk) fun x hx=>?_
  have hxd:=strs_at hx
  refine sd ?_
  refine b_lt (fun t2=>?_) (fun t2=>?_)
  refine ix_at hxd ?_ ?_
  (show (0:Int)≤(↑k:Int); omega)
  refine ix_at hxd ?_ ?_
  (show (0:Int)≤(↑k:Int); omega)
  refine b_intro (fun t3=>?_) (fun t3=>?_)
  replace t3:(x != x)=true:=t3
  rotate_left
  replace t3:(x != x)=false:=t3
  refine ar_add ?_ ?_
  refine an ?_ ?_
  (show (-9223372036854775808:Int)≤(↑k:Int)+(1:Int); omega)
  (show (↑k:Int)+(1:Int)≤(9223372036854775807:Int); omega)
  rotate_left
  (exfalso; omega)
  ·exact absurd t3 (by simp)
  ·exact ⟨k+1,⟨hkk,by show l.length - (k+1) < l.length - k; omega⟩,rfl⟩
 ·refine sd ?_
  refine b_lt (fun t2=>?_) (fun t2=>?_)
  (exfalso; omega)
  exact rfl
theorem c81 (m:Ms) (hm:m.ns.length≤1048576) (hl2:m.ls.length≤1048576):CallDet Tryz.prog 81 [.d m.d,.d m.d] [.bool true]:=by
 have hl:=lks_len m.ls
 refine call_of_vc (x:=ir81) (by kernel_rfl) rfl ?_
 refine ca (c142 m.ns hm) ?_
 refine sd ?_
 refine b_ne (fun t1=>?_) (fun t1=>?_)
 (exfalso; omega)
 rotate_left
 refine loop_u (fun k:Nat=>[(5,.d (.int .i64 k))]) (fun k=>[]) (fun k=>k≤m.ls.length) (fun k=>m.ls.length - k) 0 rfl (Nat.zero_le _) ?_
 intro k hk
 have hk:k≤m.ls.length:=hk
 by_cases hkk:k < m.ls.length
 ·refine Exists.elim (get_lt m.ls hkk) fun x hx=>?_
  have hxd:(lks m.ls)[(k:Int).toNat]?=some (.agg [.int .i64 x.a,.int .i64 x.b,.int .i64 x.c]):=lks_at hx
  refine sd ?_
  refine b_lt (fun t2=>?_) (fun t2=>?_)
  refine ix_at hxd ?_ ?_
  (show (0:Int)≤(↑k:Int); omega)
  refine ix_at hxd ?_ ?_
  (show (0:Int)≤(↑k:Int); omega)
  refine ca (Exists.intro _ (And.intro rfl rfl)) ?_
  refine b_intro (fun t3=>?_) (fun t3=>?_)
  replace t3:(!(Lk.a x==Lk.a x&&(Lk.b x==Lk.b x&&(Lk.c x==Lk.c x&&true))))=true:=t3
  rotate_left
  replace t3:(!(Lk.a x==Lk.a x&&(Lk.b x==Lk.b x&&(Lk.c x==Lk.c x&&true))))=false:=t3
  refine ar_add ?_ ?_
  refine an ?_ ?_
  (show (-9223372036854775808:Int)≤(↑k:Int)+(1:Int); omega)
  (show (↑k:Int)+(1:Int)≤(9223372036854775807:Int); omega)
  rotate_left
  (exfalso; omega)
  ·exact absurd t3 (by simp)
  ·exact ⟨k+1,⟨hkk,by show m.ls.length - (k+1) < m.ls.length - k; omega⟩,rfl⟩
 ·refine sd ?_
  refine b_lt (fun t2=>?_) (fun t2=>?_)
  (exfalso; omega)
  exact rfl
theorem c76 (h w:Ms) (hs ws:Sts) (e b:Int) (hn:h.ns.length≤1048576) (hl:h.ls.length≤1048576) (hsn:hs.es.length≤1048576) (heb:e=b) (he:h=bif b != 0 then Ms.zero else w) (hse:hs=bif b != 0 then Sts.zero else ws):CallDet Tryz.prog 76 [.d h.d,.d hs.d,.d (.int .i64 e),.d (.int .i64 b),.d w.d,.d ws.d] [.bool true]:=by
 by_cases hb:b=0
 ·have e1:h=w:=by rw [he,hb]; rfl
  subst e1
  refine call_of_vc (x:=ir76) (by kernel_rfl) rfl ?_
  refine sd ?_
  refine b_ne (fun t1=>?_) (fun t1=>?_)
  (exfalso; omega)
  refine ca (c61 h hn hl) ?_
  refine ca (c81 h hn hl) ?_
  refine ca (c38 hs ws e b hsn heb hse) ?_
  exact rfl
  all_goals skip
 ·have e1:h=Ms.zero:=by rw [he,show (b != 0)=true by rw [bne_iff_ne]; exact hb]; rfl
  rw [e1]
  refine call_of_vc (x:=ir76) (by kernel_rfl) rfl ?_
  refine sd ?_
  refine b_ne (fun t1=>?_) (fun t1=>?_)
  refine ca (c61 Ms.zero (by decide) (by decide)) ?_
  refine ca (c81 Ms.zero (by decide) (by decide)) ?_
  refine ca (c38 hs ws e b hsn heb hse) ?_
  exact rfl
  (exfalso; omega)
  all_goals skip
end Vc
set_option maxRecDepth 10000
set_option maxHeartbeats 8000000
namespace Vc
open Go Go.Proofs
@[irreducible] def seg12f:ACode:=.post [6] [0,1,2,3,4,5,6,7,8,9,10,11,12,13,14,15,16] (.reg [] [⟨some 158,.ld true 2 (.tmp 7),none⟩,
 ⟨some 159,.ld true 3 (.tmp 8),none⟩,
 ⟨some 160,.mov (.tmp 9),none⟩,
 ⟨some 161,.mov (.tmp 19),none⟩,
 ⟨some 162,.ld true 2 (.tmp 23),none⟩,
 ⟨some 163,.ld true 3 (.tmp 26),none⟩,
 ⟨some 164,.call 76 [(.tmp 158),(.tmp 159),(.tmp 160),(.tmp 161),(.tmp 162),(.tmp 163)],none⟩,
 ⟨some 165,.mov (.tmp 164),none⟩,
 ⟨some 166,.ld true 2 (.tmp 10),some (165,true)⟩,
 ⟨some 167,.ld true 3 (.tmp 11),some (165,true)⟩,
 ⟨some 168,.mov (.tmp 12),some (165,true)⟩,
 ⟨some 169,.mov (.tmp 20),some (165,true)⟩,
 ⟨some 170,.ld true 2 (.tmp 24),some (165,true)⟩,
 ⟨some 171,.ld true 3 (.tmp 27),some (165,true)⟩,
 ⟨some 172,.call 76 [(.tmp 166),(.tmp 167),(.tmp 168),(.tmp 169),(.tmp 170),(.tmp 171)],some (165,true)⟩,
 ⟨some 173,.pick (.tmp 165) (.tmp 172) (.cst (.d (.bool false))),none⟩,
 ⟨some 174,.mov (.tmp 173),none⟩,
 ⟨some 175,.ld true 2 (.tmp 13),some (174,true)⟩,
 ⟨some 176,.ld true 3 (.tmp 14),some (174,true)⟩,
 ⟨some 177,.mov (.tmp 15),some (174,true)⟩,
 ⟨some 178,.mov (.tmp 21),some (174,true)⟩,
 ⟨some 179,.ld true 2 (.tmp 25),some (174,true)⟩,
 ⟨some 180,.ld true 3 (.tmp 28),some (174,true)⟩,
 ⟨some 181,.call 76 [(.tmp 175),(.tmp 176),(.tmp 177),(.tmp 178),(.tmp 179),(.tmp 180)],some (174,true)⟩,
 ⟨some 182,.pick (.tmp 174) (.tmp 181) (.cst (.d (.bool false))),none⟩,
 ⟨some 183,.mov (.tmp 182),none⟩,
 ⟨some 184,.ld true 3 (.tmp 16),some (183,true)⟩,
 ⟨some 185,.mov (.tmp 17),some (183,true)⟩,
 ⟨some 186,.mov (.tmp 22),some (183,true)⟩,
 ⟨some 187,.ld true 3 (.tmp 29),some (183,true)⟩,
 ⟨some 188,.call 38 [(.tmp 184),(.tmp 185),(.tmp 186),(.tmp 187)],some (183,true)⟩,
 ⟨some 189,.pick (.tmp 183) (.tmp 188) (.cst (.d (.bool false))),none⟩,
 ⟨some 190,.mov (.tmp 189),none⟩,
 ⟨some 191,.call 16 [],some (190,true)⟩,
 ⟨some 192,.pick (.tmp 190) (.tmp 191) (.cst (.d (.bool false))),none⟩,
 ⟨some 6,.mov (.tmp 192),none⟩])
@[irreducible] def seg12h:ACode:=.post [3,4,5,7,8,9,10,11,12,13,14,15,16,17,18,19,20,21,22,23,24,25,26,27,28,29] [] (.seq
 (.reg [] [⟨some 99,.mov (.tmp 18),none⟩,
 ⟨some 100,.cmp .eql (.tmp 99) (.cst (.d (.int .i64 0))),none⟩])
 (.cond (.tmp 100)
 (.seq
 (.reg [] [⟨some 101,.fad 0 (.tmp 5),none⟩,
 ⟨some 102,.ld false 1 (.tmp 101),none⟩,
 ⟨some 103,.cmp .lss (.tmp 102) (.cst (.d (.int .i64 0))),none⟩,
 ⟨some 104,.mov (.tmp 103),none⟩,
 ⟨some 105,.fad 0 (.tmp 5),some (104,false)⟩,
 ⟨some 106,.ld false 1 (.tmp 105),some (104,false)⟩,
 ⟨some 107,.fad 1 (.tmp 3),some (104,false)⟩,
 ⟨some 108,.ld false 1 (.tmp 107),some (104,false)⟩,
 ⟨some 109,.len (.tmp 108),some (104,false)⟩,
 ⟨some 110,.cmp .geq (.tmp 106) (.tmp 109),some (104,false)⟩,
 ⟨some 111,.pick (.tmp 104) (.cst (.d (.bool true))) (.tmp 110),none⟩,
 ⟨some 112,.call 49 [(.tmp 111),(.cst (.d (.int .i64 10)))],none⟩,
 ⟨some 19,.mov (.tmp 112),none⟩])
 (.seq
 (.reg [] [⟨some 114,.ld true 2 (.tmp 3),none⟩,
 ⟨some 115,.ld true 3 (.tmp 4),none⟩,
 ⟨some 116,.fad 1 (.tmp 5),none⟩,
 ⟨some 117,.ld true 3 (.tmp 116),none⟩,
 ⟨some 118,.call 72 [(.tmp 114),(.tmp 115),(.tmp 117)],none⟩,
 ⟨some 113,.mov (.tmp 118),none⟩,
 ⟨some 119,.ext 0 (.tmp 113),none⟩,
 ⟨some 120,.ext 1 (.tmp 113),none⟩,
 ⟨some 121,.ext 2 (.tmp 113),none⟩,
 ⟨none,.st 2 (.tmp 24) (.tmp 119),none⟩,
 ⟨none,.st 3 (.tmp 27) (.tmp 120),none⟩,
 ⟨some 20,.mov (.tmp 121),none⟩])
 (.seq
 (.reg [] [⟨some 123,.ld true 2 (.tmp 3),none⟩,
 ⟨some 124,.ld true 3 (.tmp 4),none⟩,
 ⟨some 125,.fad 4 (.tmp 5),none⟩,
 ⟨some 126,.ld false 1 (.tmp 125),none⟩,
 ⟨some 127,.fad 5 (.tmp 5),none⟩,
 ⟨some 128,.ld false 1 (.tmp 127),none⟩,
 ⟨some 129,.fad 6 (.tmp 5),none⟩,
 ⟨some 130,.ld false 1 (.tmp 129),none⟩,
 ⟨some 131,.call 73 [(.tmp 123),(.tmp 124),(.tmp 126),(.tmp 128),(.tmp 130)],none⟩,
 ⟨some 122,.mov (.tmp 131),none⟩,
 ⟨some 132,.ext 0 (.tmp 122),none⟩,
 ⟨some 133,.ext 1 (.tmp 122),none⟩,
 ⟨some 134,.ext 2 (.tmp 122),none⟩,
 ⟨none,.st 2 (.tmp 25) (.tmp 132),none⟩,
 ⟨none,.st 3 (.tmp 28) (.tmp 133),none⟩,
 ⟨some 21,.mov (.tmp 134),none⟩])
 (.reg [] [⟨some 135,.ld true 2 (.tmp 3),none⟩,
 ⟨some 136,.fad 5 (.tmp 5),none⟩,
 ⟨some 137,.ld false 1 (.tmp 136),none⟩,
 ⟨some 138,.call 23 [(.tmp 135),(.tmp 137)],none⟩,
 ⟨some 22,.mov (.tmp 138),none⟩]))))
 .skip))
@[irreducible] def seg12i:ACode:=.post [3,4,5,7,8,9,10,11,12,13,14,15,16,17,19,20,21,22,23,24,25,26,27,28,29] [] (.seq
 (.reg [] [⟨some 139,.mov (.tmp 19),none⟩,
 ⟨some 140,.cmp .eql (.tmp 139) (.cst (.d (.int .i64 0))),none⟩])
 (.cond (.tmp 140)
 (.reg [] [⟨some 142,.ld true 2 (.tmp 3),none⟩,
 ⟨some 143,.ld true 3 (.tmp 4),none⟩,
 ⟨some 144,.fad 0 (.tmp 5),none⟩,
 ⟨some 145,.ld false 1 (.tmp 144),none⟩,
 ⟨some 146,.call 74 [(.tmp 142),(.tmp 143),(.tmp 145)],none⟩,
 ⟨some 141,.mov (.tmp 146),none⟩,
 ⟨some 147,.ext 0 (.tmp 141),none⟩,
 ⟨some 148,.ext 1 (.tmp 141),none⟩,
 ⟨none,.st 2 (.tmp 23) (.tmp 147),none⟩,
 ⟨none,.st 3 (.tmp 26) (.tmp 148),none⟩])
 .skip))
@[irreducible] def seg12j:ACode:=.post [3,4,5,7,8,9,10,11,12,13,14,15,16,17,19,20,21,22,23,24,25,26,27,28,29] [] (.seq
 (.reg [] [⟨some 149,.mov (.tmp 22),none⟩,
 ⟨some 150,.cmp .eql (.tmp 149) (.cst (.d (.int .i64 0))),none⟩])
 (.cond (.tmp 150)
 (.reg [] [⟨some 152,.ld true 3 (.tmp 4),none⟩,
 ⟨some 153,.fad 5 (.tmp 5),none⟩,
 ⟨some 154,.ld false 1 (.tmp 153),none⟩,
 ⟨some 155,.call 75 [(.tmp 152),(.tmp 154)],none⟩,
 ⟨some 151,.mov (.tmp 155),none⟩,
 ⟨some 156,.ext 0 (.tmp 151),none⟩,
 ⟨some 157,.ext 1 (.tmp 151),none⟩,
 ⟨none,.st 3 (.tmp 29) (.tmp 156),none⟩,
 ⟨some 22,.mov (.tmp 157),none⟩])
 .skip))
@[irreducible] def seg12g:ACode:=(.seq
 (.reg [] [⟨some 92,.ld true 2 (.tmp 3),none⟩,
 ⟨some 93,.ld true 3 (.tmp 4),none⟩,
 ⟨some 94,.call 34 [(.tmp 92),(.tmp 93)],none⟩,
 ⟨some 18,.mov (.tmp 94),none⟩])
 (.seq
 (.reg [] [⟨some 95,.mov (.tmp 18),none⟩,
 ⟨some 96,.mov (.tmp 18),none⟩,
 ⟨some 97,.mov (.tmp 18),none⟩,
 ⟨some 98,.mov (.tmp 18),none⟩,
 ⟨some 19,.mov (.tmp 95),none⟩,
 ⟨some 20,.mov (.tmp 96),none⟩,
 ⟨some 21,.mov (.tmp 97),none⟩,
 ⟨some 22,.mov (.tmp 98),none⟩])
 (.seq
 (.reg [10,11,12] [⟨some 23,.alloc 10 [(.nils 1),(.nils 3)],none⟩,
 ⟨some 24,.alloc 11 [(.nils 1),(.nils 3)],none⟩,
 ⟨some 25,.alloc 12 [(.nils 1),(.nils 3)],none⟩])
 (.seq
 (.reg [13,14,15,16] [⟨some 26,.alloc 13 [(.d (.int .i64 0)),(.d (.int .i64 0)),(.nils 3)],none⟩,
 ⟨some 27,.alloc 14 [(.d (.int .i64 0)),(.d (.int .i64 0)),(.nils 3)],none⟩,
 ⟨some 28,.alloc 15 [(.d (.int .i64 0)),(.d (.int .i64 0)),(.nils 3)],none⟩,
 ⟨some 29,.alloc 16 [(.d (.int .i64 0)),(.d (.int .i64 0)),(.nils 3)],none⟩])
 (.seq
 (.keep [3,4,5,7,8,9,10,11,12,13,14,15,16,17,18,19,20,21,22,23,24,25,26,27,28,29] [] seg12h)
 (.seq
 (.keep [3,4,5,7,8,9,10,11,12,13,14,15,16,17,19,20,21,22,23,24,25,26,27,28,29] [] seg12i)
 (.seq
 (.keep [3,4,5,7,8,9,10,11,12,13,14,15,16,17,19,20,21,22,23,24,25,26,27,28,29] [] seg12j)
 (.seq
 (.keep [7,8,9,10,11,12,13,14,15,16,17,19,20,21,22,23,24,25,26,27,28,29] [0,1,2] seg12f)
 .ret))))))))
def ir12:AFun:=⟨193,17,[.tmp 6],
 (.seq
 (.reg [0,1,2] [⟨some 3,.cbx 0 2 (.tmp 0),none⟩,
 ⟨some 4,.cbx 1 3 (.tmp 1),none⟩,
 ⟨some 5,.cbx 2 7 (.tmp 2),none⟩,
 ⟨some 6,.mov (.cst (.d (.bool false))),none⟩])
 (.seq
 (.seq
 (.reg [] [⟨some 30,.ld true 2 (.tmp 3),none⟩,
 ⟨some 31,.call 15 [(.tmp 30)],none⟩,
 ⟨some 32,.not (.tmp 31),none⟩,
 ⟨some 33,.mov (.tmp 32),none⟩,
 ⟨some 34,.ld true 3 (.tmp 4),some (33,false)⟩,
 ⟨some 35,.call 30 [(.tmp 34)],some (33,false)⟩,
 ⟨some 36,.not (.tmp 35),some (33,false)⟩,
 ⟨some 37,.pick (.tmp 33) (.cst (.d (.bool true))) (.tmp 36),none⟩,
 ⟨some 38,.mov (.tmp 37),none⟩,
 ⟨some 39,.fad 4 (.tmp 5),some (38,false)⟩,
 ⟨some 40,.ld false 1 (.tmp 39),some (38,false)⟩,
 ⟨some 41,.lens (.tmp 40),some (38,false)⟩,
 ⟨some 42,.cmp .gtr (.tmp 41) (.cst (.d (.int .i64 40))),some (38,false)⟩,
 ⟨some 43,.pick (.tmp 38) (.cst (.d (.bool true))) (.tmp 42),none⟩])
 (.cond (.tmp 43)
 (.seq
 (.reg [] [⟨some 44,.call 16 [],none⟩,
 ⟨some 6,.mov (.tmp 44),none⟩])
 .ret)
 .skip))
 (.seq
 (.regd [3,4] [⟨some 46,.ld true 2 (.tmp 3),none⟩,
 ⟨some 47,.call 18 [(.tmp 46)],none⟩,
 ⟨some 48,.ld true 3 (.tmp 4),none⟩,
 ⟨some 49,.call 33 [(.tmp 48)],none⟩,
 ⟨some 50,.fad 0 (.tmp 5),none⟩,
 ⟨some 51,.ld false 1 (.tmp 50),none⟩,
 ⟨some 52,.call 60 [(.tmp 47),(.tmp 49),(.tmp 51)],none⟩,
 ⟨some 45,.mov (.tmp 52),none⟩,
 ⟨some 53,.ext 0 (.tmp 45),none⟩,
 ⟨some 54,.ext 1 (.tmp 45),none⟩,
 ⟨some 55,.ext 2 (.tmp 45),none⟩,
 ⟨some 7,.alloc 3 [(.nils 1),(.nils 3)],none⟩,
 ⟨some 8,.alloc 4 [(.d (.int .i64 0)),(.d (.int .i64 0)),(.nils 3)],none⟩,
 ⟨none,.st 2 (.tmp 7) (.tmp 53),none⟩,
 ⟨none,.st 3 (.tmp 8) (.tmp 54),none⟩,
 ⟨some 9,.mov (.tmp 55),none⟩] [(0,2),(1,2),(0,4),(1,4),(2,4),(3,4),(0,5),(1,5),(2,5),(3,5),(8,9),(8,10),(9,10),(0,11),(1,11),(2,11),(3,11),(4,11),(5,11),(6,11),(7,11),(8,11),(9,11),(10,11),(0,12),(1,12),(2,12),(3,12),(4,12),(5,12),(6,12),(7,12),(8,12),(9,12),(10,12),(11,12),(9,13),(10,13),(10,14)])
 (.seq
 (.regd [5,6] [⟨some 57,.ld true 2 (.tmp 3),none⟩,
 ⟨some 58,.call 18 [(.tmp 57)],none⟩,
 ⟨some 59,.ld true 3 (.tmp 4),none⟩,
 ⟨some 60,.call 33 [(.tmp 59)],none⟩,
 ⟨some 61,.fad 1 (.tmp 5),none⟩,
 ⟨some 62,.ld true 3 (.tmp 61),none⟩,
 ⟨some 63,.call 68 [(.tmp 58),(.tmp 60),(.tmp 62)],none⟩,
 ⟨some 56,.mov (.tmp 63),none⟩,
 ⟨some 64,.ext 0 (.tmp 56),none⟩,
 ⟨some 65,.ext 1 (.tmp 56),none⟩,
 ⟨some 66,.ext 2 (.tmp 56),none⟩,
 ⟨some 10,.alloc 5 [(.nils 1),(.nils 3)],none⟩,
 ⟨some 11,.alloc 6 [(.d (.int .i64 0)),(.d (.int .i64 0)),(.nils 3)],none⟩,
 ⟨none,.st 2 (.tmp 10) (.tmp 64),none⟩,
 ⟨none,.st 3 (.tmp 11) (.tmp 65),none⟩,
 ⟨some 12,.mov (.tmp 66),none⟩] [(0,2),(1,2),(0,4),(1,4),(2,4),(3,4),(0,5),(1,5),(2,5),(3,5),(8,9),(8,10),(9,10),(0,11),(1,11),(2,11),(3,11),(4,11),(5,11),(6,11),(7,11),(8,11),(9,11),(10,11),(0,12),(1,12),(2,12),(3,12),(4,12),(5,12),(6,12),(7,12),(8,12),(9,12),(10,12),(11,12),(9,13),(10,13),(10,14)])
 (.seq
 (.regd [7,8] [⟨some 68,.ld true 2 (.tmp 3),none⟩,
 ⟨some 69,.call 18 [(.tmp 68)],none⟩,
 ⟨some 70,.ld true 3 (.tmp 4),none⟩,
 ⟨some 71,.call 33 [(.tmp 70)],none⟩,
 ⟨some 72,.fad 4 (.tmp 5),none⟩,
 ⟨some 73,.ld false 1 (.tmp 72),none⟩,
 ⟨some 74,.fad 5 (.tmp 5),none⟩,
 ⟨some 75,.ld false 1 (.tmp 74),none⟩,
 ⟨some 76,.fad 6 (.tmp 5),none⟩,
 ⟨some 77,.ld false 1 (.tmp 76),none⟩,
 ⟨some 78,.call 71 [(.tmp 69),(.tmp 71),(.tmp 73),(.tmp 75),(.tmp 77)],none⟩,
 ⟨some 67,.mov (.tmp 78),none⟩,
 ⟨some 79,.ext 0 (.tmp 67),none⟩,
 ⟨some 80,.ext 1 (.tmp 67),none⟩,
 ⟨some 81,.ext 2 (.tmp 67),none⟩,
 ⟨some 13,.alloc 7 [(.nils 1),(.nils 3)],none⟩,
 ⟨some 14,.alloc 8 [(.d (.int .i64 0)),(.d (.int .i64 0)),(.nils 3)],none⟩,
 ⟨none,.st 2 (.tmp 13) (.tmp 79),none⟩,
 ⟨none,.st 3 (.tmp 14) (.tmp 80),none⟩,
 ⟨some 15,.mov (.tmp 81),none⟩] [(0,2),(1,2),(0,4),(1,4),(2,4),(3,4),(0,5),(1,5),(2,5),(3,5),(0,6),(1,6),(2,6),(3,6),(4,6),(5,6),(0,7),(1,7),(2,7),(3,7),(4,7),(5,7),(0,8),(1,8),(2,8),(3,8),(4,8),(5,8),(6,8),(7,8),(0,9),(1,9),(2,9),(3,9),(4,9),(5,9),(6,9),(7,9),(12,13),(12,14),(13,14),(0,15),(1,15),(2,15),(3,15),(4,15),(5,15),(6,15),(7,15),(8,15),(9,15),(10,15),(11,15),(12,15),(13,15),(14,15),(0,16),(1,16),(2,16),(3,16),(4,16),(5,16),(6,16),(7,16),(8,16),(9,16),(10,16),(11,16),(12,16),(13,16),(14,16),(15,16),(13,17),(14,17),(14,18)])
 (.seq
 (.regd [9] [⟨some 83,.ld true 2 (.tmp 3),none⟩,
 ⟨some 84,.call 18 [(.tmp 83)],none⟩,
 ⟨some 85,.ld true 3 (.tmp 4),none⟩,
 ⟨some 86,.call 33 [(.tmp 85)],none⟩,
 ⟨some 87,.fad 5 (.tmp 5),none⟩,
 ⟨some 88,.ld false 1 (.tmp 87),none⟩,
 ⟨some 89,.call 62 [(.tmp 84),(.tmp 86),(.tmp 88)],none⟩,
 ⟨some 82,.mov (.tmp 89),none⟩,
 ⟨some 90,.ext 0 (.tmp 82),none⟩,
 ⟨some 91,.ext 1 (.tmp 82),none⟩,
 ⟨some 16,.alloc 9 [(.d (.int .i64 0)),(.d (.int .i64 0)),(.nils 3)],none⟩,
 ⟨none,.st 3 (.tmp 16) (.tmp 90),none⟩,
 ⟨some 17,.mov (.tmp 91),none⟩] [(0,2),(1,2),(0,4),(1,4),(2,4),(3,4),(0,5),(1,5),(2,5),(3,5),(8,9),(0,10),(1,10),(2,10),(3,10),(4,10),(5,10),(6,10),(7,10),(8,10),(9,10),(9,11)])
 (.keep [3,4,5,7,8,9,10,11,12,13,14,15,16,17] [] seg12g)))))))⟩
theorem if_ms {e:Int} {x:Ms} {n:Nat} (h:x.ns.length≤n):(bif e != 0 then Ms.zero else x).ns.length≤n:=by
 cases (e != 0)
 ·exact h
 ·exact Nat.zero_le _
theorem if_ml {e:Int} {x:Ms} {n:Nat} (h:x.ls.length≤n):(bif e != 0 then Ms.zero else x).ls.length≤n:=by
 cases (e != 0)
 ·exact h
 ·exact Nat.zero_le _
theorem brok_len (s:Sts) (m:Ms) (i:Int):(s.brok m i).es.length=s.es.length:=by
 unfold Sts.brok
 show (match m.ls[i.toNat]? with | some l=>cut2 s.es l | none=>s.es).length=_
 split
 ·unfold cut2; rw [cut1_len,cut1_len]
 ·rfl
theorem first_one (a:Int):firstOf [a]=a:=by
 by_cases h:a=0
 ·rw [h]; rfl
 ·exact first_1 h
theorem v12f0 {n : Nat} {Q : AExit → St → Prop} (a b c : Ms) (x y z u : Sts) (e1 e2 e3 e4 f1 f2 f3 f4 : Int) (c16_ : CallDet Tryz.prog 16 [] [.bool true])
  (hn1:a.ns.length≤1048576) (hl1:a.ls.length≤1048576) (hs1:x.es.length≤1048576) (he1:e1=f1) (hm1:a=bif f1 != 0 then Ms.zero else Ms.zero) (hx1:x=bif f1 != 0 then Sts.zero else Sts.zero)
  (hn2:b.ns.length≤1048576) (hl2:b.ls.length≤1048576) (hs2:y.es.length≤1048576) (he2:e2=f2) (hm2:b=bif f2 != 0 then Ms.zero else Ms.zero) (hx2:y=bif f2 != 0 then Sts.zero else Sts.zero)
  (hn3:c.ns.length≤1048576) (hl3:c.ls.length≤1048576) (hs3:z.es.length≤1048576) (he3:e3=f3) (hm3:c=bif f3 != 0 then Ms.zero else Ms.zero) (hx3:z=bif f3 != 0 then Sts.zero else Sts.zero)
  (hs4:u.es.length≤1048576) (he4:e4=f4) (hx4:u=bif f4 != 0 then Sts.zero else Sts.zero)
  (h:Q .normal ⟨[(6,.d (.bool true))],[.none,.none,.none,.none,.none,.none,.none,.none,.none,.none,.none,.none,.none,.none,.none,.none,.none]⟩) :
  vc Tryz.prog n seg12f ⟨[(7,.ptr 3 0),(8,.ptr 4 0),(9,.d (.int .i64 e1)),(10,.ptr 5 0),(11,.ptr 6 0),(12,.d (.int .i64 e2)),(13,.ptr 7 0),(14,.ptr 8 0),(15,.d (.int .i64 e3)),(16,.ptr 9 0),(17,.d (.int .i64 e4)),(19,.d (.int .i64 f1)),(20,.d (.int .i64 f2)),(21,.d (.int .i64 f3)),(22,.d (.int .i64 f4)),(23,.ptr 10 0),(24,.ptr 11 0),(25,.ptr 12 0),(26,.ptr 13 0),(27,.ptr 14 0),(28,.ptr 15 0),(29,.ptr 16 0)],[.none,.none,.none,.box [.d (.slice 1 (strs a.ns)),.d (.slice 3 (lks a.ls))],.box [.d (.int .i64 x.co),.d (.int .i64 x.nu),.d (.slice 3 (ens x.es))],.box [.d (.slice 1 (strs b.ns)),.d (.slice 3 (lks b.ls))],.box [.d (.int .i64 y.co),.d (.int .i64 y.nu),.d (.slice 3 (ens y.es))],.box [.d (.slice 1 (strs c.ns)),.d (.slice 3 (lks c.ls))],.box [.d (.int .i64 z.co),.d (.int .i64 z.nu),.d (.slice 3 (ens z.es))],.box [.d (.int .i64 u.co),.d (.int .i64 u.nu),.d (.slice 3 (ens u.es))],.box [.nils 1,.nils 3],.box [.nils 1,.nils 3],.box [.nils 1,.nils 3],.box [.d (.int .i64 0),.d (.int .i64 0),.nils 3],.box [.d (.int .i64 0),.d (.int .i64 0),.nils 3],.box [.d (.int .i64 0),.d (.int .i64 0),.nils 3],.box [.d (.int .i64 0),.d (.int .i64 0),.nils 3]]⟩ Q:=by
 unfold seg12f
 refine ca (c76 a Ms.zero x Sts.zero e1 f1 hn1 hl1 hs1 he1 hm1 hx1) ?_
 refine ca (c76 b Ms.zero y Sts.zero e2 f2 hn2 hl2 hs2 he2 hm2 hx2) ?_
 refine ca (c76 c Ms.zero z Sts.zero e3 f3 hn3 hl3 hs3 he3 hm3 hx3) ?_
 refine ca (c38 u Sts.zero e4 f4 hs4 he4 hx4) ?_
 refine ca c16_ ?_
 rotate_left
 exact h
theorem v12f1 {n : Nat} {Q : AExit → St → Prop} (a b c q r : Ms) (x y z u k l : Sts) (e1 e2 e3 e4 f1 f2 f3 f4 : Int) (c16_ : CallDet Tryz.prog 16 [] [.bool true])
  (hn1:a.ns.length≤1048576) (hl1:a.ls.length≤1048576) (hs1:x.es.length≤1048576) (he1:e1=f1) (hm1:a=bif f1 != 0 then Ms.zero else Ms.zero) (hx1:x=bif f1 != 0 then Sts.zero else Sts.zero)
  (hn2:b.ns.length≤1048576) (hl2:b.ls.length≤1048576) (hs2:y.es.length≤1048576) (he2:e2=f2) (hm2:b=bif f2 != 0 then Ms.zero else q) (hx2:y=bif f2 != 0 then Sts.zero else k)
  (hn3:c.ns.length≤1048576) (hl3:c.ls.length≤1048576) (hs3:z.es.length≤1048576) (he3:e3=f3) (hm3:c=bif f3 != 0 then Ms.zero else r) (hx3:z=bif f3 != 0 then Sts.zero else l)
  (hs4:u.es.length≤1048576) (he4:e4=f4) (hx4:u=bif f4 != 0 then Sts.zero else Sts.zero)
  (h:Q .normal ⟨[(6,.d (.bool true))],[.none,.none,.none,.none,.none,.none,.none,.none,.none,.none,.none,.none,.none,.none,.none,.none,.none]⟩) :
  vc Tryz.prog n seg12f ⟨[(7,.ptr 3 0),(8,.ptr 4 0),(9,.d (.int .i64 e1)),(10,.ptr 5 0),(11,.ptr 6 0),(12,.d (.int .i64 e2)),(13,.ptr 7 0),(14,.ptr 8 0),(15,.d (.int .i64 e3)),(16,.ptr 9 0),(17,.d (.int .i64 e4)),(19,.d (.int .i64 f1)),(20,.d (.int .i64 f2)),(21,.d (.int .i64 f3)),(22,.d (.int .i64 f4)),(23,.ptr 10 0),(24,.ptr 11 0),(25,.ptr 12 0),(26,.ptr 13 0),(27,.ptr 14 0),(28,.ptr 15 0),(29,.ptr 16 0)],[.none,.none,.none,.box [.d (.slice 1 (strs a.ns)),.d (.slice 3 (lks a.ls))],.box [.d (.int .i64 x.co),.d (.int .i64 x.nu),.d (.slice 3 (ens x.es))],.box [.d (.slice 1 (strs b.ns)),.d (.slice 3 (lks b.ls))],.box [.d (.int .i64 y.co),.d (.int .i64 y.nu),.d (.slice 3 (ens y.es))],.box [.d (.slice 1 (strs c.ns)),.d (.slice 3 (lks c.ls))],.box [.d (.int .i64 z.co),.d (.int .i64 z.nu),.d (.slice 3 (ens z.es))],.box [.d (.int .i64 u.co),.d (.int .i64 u.nu),.d (.slice 3 (ens u.es))],.box [.nils 1,.nils 3],.box [.d (.slice 1 (strs q.ns)),.d (.slice 3 (lks q.ls))],.box [.d (.slice 1 (strs r.ns)),.d (.slice 3 (lks r.ls))],.box [.d (.int .i64 0),.d (.int .i64 0),.nils 3],.box [.d (.int .i64 k.co),.d (.int .i64 k.nu),.d (.slice 3 (ens k.es))],.box [.d (.int .i64 l.co),.d (.int .i64 l.nu),.d (.slice 3 (ens l.es))],.box [.d (.int .i64 0),.d (.int .i64 0),.nils 3]]⟩ Q:=by
 unfold seg12f
 refine ca (c76 a Ms.zero x Sts.zero e1 f1 hn1 hl1 hs1 he1 hm1 hx1) ?_
 refine ca (c76 b q y k e2 f2 hn2 hl2 hs2 he2 hm2 hx2) ?_
 refine ca (c76 c r z l e3 f3 hn3 hl3 hs3 he3 hm3 hx3) ?_
 refine ca (c38 u Sts.zero e4 f4 hs4 he4 hx4) ?_
 refine ca c16_ ?_
 rotate_left
 exact h
theorem v12f2 {n : Nat} {Q : AExit → St → Prop} (a b c p q r : Ms) (x y z u j k l : Sts) (e1 e2 e3 e4 f1 f2 f3 f4 : Int) (c16_ : CallDet Tryz.prog 16 [] [.bool true])
  (hn1:a.ns.length≤1048576) (hl1:a.ls.length≤1048576) (hs1:x.es.length≤1048576) (he1:e1=f1) (hm1:a=bif f1 != 0 then Ms.zero else p) (hx1:x=bif f1 != 0 then Sts.zero else j)
  (hn2:b.ns.length≤1048576) (hl2:b.ls.length≤1048576) (hs2:y.es.length≤1048576) (he2:e2=f2) (hm2:b=bif f2 != 0 then Ms.zero else q) (hx2:y=bif f2 != 0 then Sts.zero else k)
  (hn3:c.ns.length≤1048576) (hl3:c.ls.length≤1048576) (hs3:z.es.length≤1048576) (he3:e3=f3) (hm3:c=bif f3 != 0 then Ms.zero else r) (hx3:z=bif f3 != 0 then Sts.zero else l)
  (hs4:u.es.length≤1048576) (he4:e4=f4) (hx4:u=bif f4 != 0 then Sts.zero else Sts.zero)
  (h:Q .normal ⟨[(6,.d (.bool true))],[.none,.none,.none,.none,.none,.none,.none,.none,.none,.none,.none,.none,.none,.none,.none,.none,.none]⟩) :
  vc Tryz.prog n seg12f ⟨[(7,.ptr 3 0),(8,.ptr 4 0),(9,.d (.int .i64 e1)),(10,.ptr 5 0),(11,.ptr 6 0),(12,.d (.int .i64 e2)),(13,.ptr 7 0),(14,.ptr 8 0),(15,.d (.int .i64 e3)),(16,.ptr 9 0),(17,.d (.int .i64 e4)),(19,.d (.int .i64 f1)),(20,.d (.int .i64 f2)),(21,.d (.int .i64 f3)),(22,.d (.int .i64 f4)),(23,.ptr 10 0),(24,.ptr 11 0),(25,.ptr 12 0),(26,.ptr 13 0),(27,.ptr 14 0),(28,.ptr 15 0),(29,.ptr 16 0)],[.none,.none,.none,.box [.d (.slice 1 (strs a.ns)),.d (.slice 3 (lks a.ls))],.box [.d (.int .i64 x.co),.d (.int .i64 x.nu),.d (.slice 3 (ens x.es))],.box [.d (.slice 1 (strs b.ns)),.d (.slice 3 (lks b.ls))],.box [.d (.int .i64 y.co),.d (.int .i64 y.nu),.d (.slice 3 (ens y.es))],.box [.d (.slice 1 (strs c.ns)),.d (.slice 3 (lks c.ls))],.box [.d (.int .i64 z.co),.d (.int .i64 z.nu),.d (.slice 3 (ens z.es))],.box [.d (.int .i64 u.co),.d (.int .i64 u.nu),.d (.slice 3 (ens u.es))],.box [.d (.slice 1 (strs p.ns)),.d (.slice 3 (lks p.ls))],.box [.d (.slice 1 (strs q.ns)),.d (.slice 3 (lks q.ls))],.box [.d (.slice 1 (strs r.ns)),.d (.slice 3 (lks r.ls))],.box [.d (.int .i64 j.co),.d (.int .i64 j.nu),.d (.slice 3 (ens j.es))],.box [.d (.int .i64 k.co),.d (.int .i64 k.nu),.d (.slice 3 (ens k.es))],.box [.d (.int .i64 l.co),.d (.int .i64 l.nu),.d (.slice 3 (ens l.es))],.box [.d (.int .i64 0),.d (.int .i64 0),.nils 3]]⟩ Q:=by
 unfold seg12f
 refine ca (c76 a p x j e1 f1 hn1 hl1 hs1 he1 hm1 hx1) ?_
 refine ca (c76 b q y k e2 f2 hn2 hl2 hs2 he2 hm2 hx2) ?_
 refine ca (c76 c r z l e3 f3 hn3 hl3 hs3 he3 hm3 hx3) ?_
 refine ca (c38 u Sts.zero e4 f4 hs4 he4 hx4) ?_
 refine ca c16_ ?_
 rotate_left
 exact h
theorem v12f3 {n : Nat} {Q : AExit → St → Prop} (a b c q r : Ms) (x y z u k l o : Sts) (e1 e2 e3 e4 f1 f2 f3 f4 : Int) (c16_ : CallDet Tryz.prog 16 [] [.bool true])
  (hn1:a.ns.length≤1048576) (hl1:a.ls.length≤1048576) (hs1:x.es.length≤1048576) (he1:e1=f1) (hm1:a=bif f1 != 0 then Ms.zero else Ms.zero) (hx1:x=bif f1 != 0 then Sts.zero else Sts.zero)
  (hn2:b.ns.length≤1048576) (hl2:b.ls.length≤1048576) (hs2:y.es.length≤1048576) (he2:e2=f2) (hm2:b=bif f2 != 0 then Ms.zero else q) (hx2:y=bif f2 != 0 then Sts.zero else k)
  (hn3:c.ns.length≤1048576) (hl3:c.ls.length≤1048576) (hs3:z.es.length≤1048576) (he3:e3=f3) (hm3:c=bif f3 != 0 then Ms.zero else r) (hx3:z=bif f3 != 0 then Sts.zero else l)
  (hs4:u.es.length≤1048576) (he4:e4=f4) (hx4:u=bif f4 != 0 then Sts.zero else o)
  (h:Q .normal ⟨[(6,.d (.bool true))],[.none,.none,.none,.none,.none,.none,.none,.none,.none,.none,.none,.none,.none,.none,.none,.none,.none]⟩) :
  vc Tryz.prog n seg12f ⟨[(7,.ptr 3 0),(8,.ptr 4 0),(9,.d (.int .i64 e1)),(10,.ptr 5 0),(11,.ptr 6 0),(12,.d (.int .i64 e2)),(13,.ptr 7 0),(14,.ptr 8 0),(15,.d (.int .i64 e3)),(16,.ptr 9 0),(17,.d (.int .i64 e4)),(19,.d (.int .i64 f1)),(20,.d (.int .i64 f2)),(21,.d (.int .i64 f3)),(22,.d (.int .i64 f4)),(23,.ptr 10 0),(24,.ptr 11 0),(25,.ptr 12 0),(26,.ptr 13 0),(27,.ptr 14 0),(28,.ptr 15 0),(29,.ptr 16 0)],[.none,.none,.none,.box [.d (.slice 1 (strs a.ns)),.d (.slice 3 (lks a.ls))],.box [.d (.int .i64 x.co),.d (.int .i64 x.nu),.d (.slice 3 (ens x.es))],.box [.d (.slice 1 (strs b.ns)),.d (.slice 3 (lks b.ls))],.box [.d (.int .i64 y.co),.d (.int .i64 y.nu),.d (.slice 3 (ens y.es))],.box [.d (.slice 1 (strs c.ns)),.d (.slice 3 (lks c.ls))],.box [.d (.int .i64 z.co),.d (.int .i64 z.nu),.d (.slice 3 (ens z.es))],.box [.d (.int .i64 u.co),.d (.int .i64 u.nu),.d (.slice 3 (ens u.es))],.box [.nils 1,.nils 3],.box [.d (.slice 1 (strs q.ns)),.d (.slice 3 (lks q.ls))],.box [.d (.slice 1 (strs r.ns)),.d (.slice 3 (lks r.ls))],.box [.d (.int .i64 0),.d (.int .i64 0),.nils 3],.box [.d (.int .i64 k.co),.d (.int .i64 k.nu),.d (.slice 3 (ens k.es))],.box [.d (.int .i64 l.co),.d (.int .i64 l.nu),.d (.slice 3 (ens l.es))],.box [.d (.int .i64 o.co),.d (.int .i64 o.nu),.d (.slice 3 (ens o.es))]]⟩ Q:=by
 unfold seg12f
 refine ca (c76 a Ms.zero x Sts.zero e1 f1 hn1 hl1 hs1 he1 hm1 hx1) ?_
 refine ca (c76 b q y k e2 f2 hn2 hl2 hs2 he2 hm2 hx2) ?_
 refine ca (c76 c r z l e3 f3 hn3 hl3 hs3 he3 hm3 hx3) ?_
 refine ca (c38 u o e4 f4 hs4 he4 hx4) ?_
 refine ca c16_ ?_
 rotate_left
 exact h
theorem v12f4 {n : Nat} {Q : AExit → St → Prop} (a b c p q r : Ms) (x y z u j k l o : Sts) (e1 e2 e3 e4 f1 f2 f3 f4 : Int) (c16_ : CallDet Tryz.prog 16 [] [.bool true])
  (hn1:a.ns.length≤1048576) (hl1:a.ls.length≤1048576) (hs1:x.es.length≤1048576) (he1:e1=f1) (hm1:a=bif f1 != 0 then Ms.zero else p) (hx1:x=bif f1 != 0 then Sts.zero else j)
  (hn2:b.ns.length≤1048576) (hl2:b.ls.length≤1048576) (hs2:y.es.length≤1048576) (he2:e2=f2) (hm2:b=bif f2 != 0 then Ms.zero else q) (hx2:y=bif f2 != 0 then Sts.zero else k)
  (hn3:c.ns.length≤1048576) (hl3:c.ls.length≤1048576) (hs3:z.es.length≤1048576) (he3:e3=f3) (hm3:c=bif f3 != 0 then Ms.zero else r) (hx3:z=bif f3 != 0 then Sts.zero else l)
  (hs4:u.es.length≤1048576) (he4:e4=f4) (hx4:u=bif f4 != 0 then Sts.zero else o)
  (h:Q .normal ⟨[(6,.d (.bool true))],[.none,.none,.none,.none,.none,.none,.none,.none,.none,.none,.none,.none,.none,.none,.none,.none,.none]⟩) :
  vc Tryz.prog n seg12f ⟨[(7,.ptr 3 0),(8,.ptr 4 0),(9,.d (.int .i64 e1)),(10,.ptr 5 0),(11,.ptr 6 0),(12,.d (.int .i64 e2)),(13,.ptr 7 0),(14,.ptr 8 0),(15,.d (.int .i64 e3)),(16,.ptr 9 0),(17,.d (.int .i64 e4)),(19,.d (.int .i64 f1)),(20,.d (.int .i64 f2)),(21,.d (.int .i64 f3)),(22,.d (.int .i64 f4)),(23,.ptr 10 0),(24,.ptr 11 0),(25,.ptr 12 0),(26,.ptr 13 0),(27,.ptr 14 0),(28,.ptr 15 0),(29,.ptr 16 0)],[.none,.none,.none,.box [.d (.slice 1 (strs a.ns)),.d (.slice 3 (lks a.ls))],.box [.d (.int .i64 x.co),.d (.int .i64 x.nu),.d (.slice 3 (ens x.es))],.box [.d (.slice 1 (strs b.ns)),.d (.slice 3 (lks b.ls))],.box [.d (.int .i64 y.co),.d (.int .i64 y.nu),.d (.slice 3 (ens y.es))],.box [.d (.slice 1 (strs c.ns)),.d (.slice 3 (lks c.ls))],.box [.d (.int .i64 z.co),.d (.int .i64 z.nu),.d (.slice 3 (ens z.es))],.box [.d (.int .i64 u.co),.d (.int .i64 u.nu),.d (.slice 3 (ens u.es))],.box [.d (.slice 1 (strs p.ns)),.d (.slice 3 (lks p.ls))],.box [.d (.slice 1 (strs q.ns)),.d (.slice 3 (lks q.ls))],.box [.d (.slice 1 (strs r.ns)),.d (.slice 3 (lks r.ls))],.box [.d (.int .i64 j.co),.d (.int .i64 j.nu),.d (.slice 3 (ens j.es))],.box [.d (.int .i64 k.co),.d (.int .i64 k.nu),.d (.slice 3 (ens k.es))],.box [.d (.int .i64 l.co),.d (.int .i64 l.nu),.d (.slice 3 (ens l.es))],.box [.d (.int .i64 o.co),.d (.int .i64 o.nu),.d (.slice 3 (ens o.es))]]⟩ Q:=by
 unfold seg12f
 refine ca (c76 a p x j e1 f1 hn1 hl1 hs1 he1 hm1 hx1) ?_
 refine ca (c76 b q y k e2 f2 hn2 hl2 hs2 he2 hm2 hx2) ?_
 refine ca (c76 c r z l e3 f3 hn3 hl3 hs3 he3 hm3 hx3) ?_
 refine ca (c38 u o e4 f4 hs4 he4 hx4) ?_
 refine ca c16_ ?_
 rotate_left
 exact h
def t12:List (Nat × AVal):=[(23,.ptr 10 0),(24,.ptr 11 0),(25,.ptr 12 0),(26,.ptr 13 0),(27,.ptr 14 0),(28,.ptr 15 0),(29,.ptr 16 0)]
def s12 (m:Ms) (s:Sts) (i:Int) (l:Lk) (nm:List UInt8) (w c0:Int) (r:List (Nat × AVal)):List (Nat × AVal):=(3,.ptr 0 0)::(4,.ptr 1 0)::(5,.ptr 2 0)::(7,.ptr 3 0)::(8,.ptr 4 0)::(9,.d (.int .i64 (brokE m s i)))::(10,.ptr 5 0)::(11,.ptr 6 0)::(12,.d (.int .i64 (linkdE m s l)))::(13,.ptr 7 0)::(14,.ptr 8 0)::(15,.d (.int .i64 (joinE m s nm w c0)))::(16,.ptr 9 0)::(17,.d (.int .i64 (elecE m s w)))::r
def h12 (m:Ms) (s:Sts) (i:Int) (l:Lk) (nm:List UInt8) (w c0:Int) (a b c:Ms) (x y z u:Sts) (r:List AObj):List AObj:=.cbox [.slice 1 (strs m.ns),.slice 3 (lks m.ls)]::.cbox [.int .i64 s.co,.int .i64 s.nu,.slice 3 (ens s.es)]::.cbox [.int .i64 i,.int .i64 l.a,.int .i64 l.b,.int .i64 l.c,.str nm,.int .i64 w,.int .i64 c0]::.box [.d (.slice 1 (strs a.ns)),.d (.slice 3 (lks a.ls))]::.box [.d (.int .i64 x.co),.d (.int .i64 x.nu),.d (.slice 3 (ens x.es))]::.box [.d (.slice 1 (strs b.ns)),.d (.slice 3 (lks b.ls))]::.box [.d (.int .i64 y.co),.d (.int .i64 y.nu),.d (.slice 3 (ens y.es))]::.box [.d (.slice 1 (strs c.ns)),.d (.slice 3 (lks c.ls))]::.box [.d (.int .i64 z.co),.d (.int .i64 z.nu),.d (.slice 3 (ens z.es))]::.box [.d (.int .i64 u.co),.d (.int .i64 u.nu),.d (.slice 3 (ens u.es))]::r
theorem v12i {n : Nat} {Q : AExit → St → Prop} (A11 B11 A12 B12 A14 B14 C14 A15 B15 C15 : AVal) (m : Ms) (s : Sts) (i : Int) (l : Lk) (nm : List UInt8) (w c0 : Int) (hm : m.ns.length ≤ 1048570) (hl2 : m.ls.length ≤ 1048570) (hn : s.es.length ≤ 1048570) (a b c : Ms) (x y z u : Sts) (f1 f2 f3 f4 : Int)
  (hf:f1=0→m.chkS s=0∧(0≤i∧i < (m.ls.length:Int)))
  (h1:f1=0→Q .normal ⟨s12 m s i l nm w c0 ((19,.d (.int .i64 f1))::(20,.d (.int .i64 f2))::(21,.d (.int .i64 f3))::(22,.d (.int .i64 f4))::t12),h12 m s i l nm w c0 a b c x y z u [.box [.d (.slice 1 (strs (m.brok i).ns)),.d (.slice 3 (lks (m.brok i).ls))],.box [A11,B11],.box [A12,B12],.box [.d (.int .i64 (s.brok m i).co),.d (.int .i64 (s.brok m i).nu),.d (.slice 3 (ens (s.brok m i).es))],.box [A14,B14,C14],.box [A15,B15,C15],.box [.d (.int .i64 0),.d (.int .i64 0),.nils 3]]⟩)
  (h2:¬ f1=0→Q .normal ⟨s12 m s i l nm w c0 ((19,.d (.int .i64 f1))::(20,.d (.int .i64 f2))::(21,.d (.int .i64 f3))::(22,.d (.int .i64 f4))::t12),h12 m s i l nm w c0 a b c x y z u [.box [.nils 1,.nils 3],.box [A11,B11],.box [A12,B12],.box [.d (.int .i64 0),.d (.int .i64 0),.nils 3],.box [A14,B14,C14],.box [A15,B15,C15],.box [.d (.int .i64 0),.d (.int .i64 0),.nils 3]]⟩) :
  vc Tryz.prog n seg12i ⟨s12 m s i l nm w c0 ((19,.d (.int .i64 f1))::(20,.d (.int .i64 f2))::(21,.d (.int .i64 f3))::(22,.d (.int .i64 f4))::t12),h12 m s i l nm w c0 a b c x y z u [.box [.nils 1,.nils 3],.box [A11,B11],.box [A12,B12],.box [.d (.int .i64 0),.d (.int .i64 0),.nils 3],.box [A14,B14,C14],.box [A15,B15,C15],.box [.d (.int .i64 0),.d (.int .i64 0),.nils 3]]⟩ Q:=by
 unfold seg12i s12 t12 h12
 refine sd ?_
 refine b_eq (fun t1=>?_) (fun t1=>?_)
 refine ca (c74 m s i (good_of (hf ‹_›).1) (hf ‹_›).2.1 (hf ‹_›).2.2) ?_
 rotate_left
 rotate_left
 ·exact h1 ‹_›
 ·exact h2 ‹_›
theorem v12j {n : Nat} {Q : AExit → St → Prop} (A10 B10 A11 B11 A12 B12 A13 B13 C13 A14 B14 C14 A15 B15 C15 : AVal) (m : Ms) (s : Sts) (i : Int) (l : Lk) (nm : List UInt8) (w c0 : Int) (hm : m.ns.length ≤ 1048570) (hl2 : m.ls.length ≤ 1048570) (hn : s.es.length ≤ 1048570) (a b c : Ms) (x y z u : Sts) (f1 f2 f3 f4 : Int)
  (hf:f4=0→m.chkS s=0∧m.nodeE w=0)
  (h1:f4=0→Q .normal ⟨s12 m s i l nm w c0 ((19,.d (.int .i64 f1))::(20,.d (.int .i64 f2))::(21,.d (.int .i64 f3))::(22,.d (.int .i64 (elRE s w)))::t12),h12 m s i l nm w c0 a b c x y z u [.box [A10,B10],.box [A11,B11],.box [A12,B12],.box [A13,B13,C13],.box [A14,B14,C14],.box [A15,B15,C15],.box [.d (.int .i64 (bif elRE s w != 0 then Sts.zero else s.elec w).co),.d (.int .i64 (bif elRE s w != 0 then Sts.zero else s.elec w).nu),.d (.slice 3 (ens (bif elRE s w != 0 then Sts.zero else s.elec w).es))]]⟩)
  (h2:¬ f4=0→Q .normal ⟨s12 m s i l nm w c0 ((19,.d (.int .i64 f1))::(20,.d (.int .i64 f2))::(21,.d (.int .i64 f3))::(22,.d (.int .i64 f4))::t12),h12 m s i l nm w c0 a b c x y z u [.box [A10,B10],.box [A11,B11],.box [A12,B12],.box [A13,B13,C13],.box [A14,B14,C14],.box [A15,B15,C15],.box [.d (.int .i64 0),.d (.int .i64 0),.nils 3]]⟩) :
  vc Tryz.prog n seg12j ⟨s12 m s i l nm w c0 ((19,.d (.int .i64 f1))::(20,.d (.int .i64 f2))::(21,.d (.int .i64 f3))::(22,.d (.int .i64 f4))::t12),h12 m s i l nm w c0 a b c x y z u [.box [A10,B10],.box [A11,B11],.box [A12,B12],.box [A13,B13,C13],.box [A14,B14,C14],.box [A15,B15,C15],.box [.d (.int .i64 0),.d (.int .i64 0),.nils 3]]⟩ Q:=by
 unfold seg12j s12 t12 h12
 refine sd ?_
 refine b_eq (fun t1=>?_) (fun t1=>?_)
 refine ca (c75 m s w (good_of (hf ‹_›).1) (node_in (hf ‹_›).2)) ?_
 rotate_left
 rotate_left
 ·exact h1 ‹_›
 ·exact h2 ‹_›
theorem v12h {n : Nat} {Q : AExit → St → Prop} (m : Ms) (s : Sts) (i : Int) (l : Lk) (nm : List UInt8) (w c0 : Int) (hm : m.ns.length ≤ 1048570) (hl2 : m.ls.length ≤ 1048570) (hn : s.es.length ≤ 1048570) (a b c : Ms) (x y z u : Sts)
  (h1:m.chkS s=0→i < 0→Q .normal ⟨s12 m s i l nm w c0 ((18,.d (.int .i64 (m.chkS s)))::(19,.d (.int .i64 10))::(20,.d (.int .i64 (lkRE m l)))::(21,.d (.int .i64 (joRE m nm w c0)))::(22,.d (.int .i64 (m.nodeE w)))::t12),h12 m s i l nm w c0 a b c x y z u [.box [.nils 1,.nils 3],.box [.d (.slice 1 (strs (bif lkRE m l != 0 then Ms.zero else m.plus l).ns)),.d (.slice 3 (lks (bif lkRE m l != 0 then Ms.zero else m.plus l).ls))],.box [.d (.slice 1 (strs (bif joRE m nm w c0 != 0 then Ms.zero else m.joined nm w c0).ns)),.d (.slice 3 (lks (bif joRE m nm w c0 != 0 then Ms.zero else m.joined nm w c0).ls))],.box [.d (.int .i64 0),.d (.int .i64 0),.nils 3],.box [.d (.int .i64 (bif lkRE m l != 0 then Sts.zero else s).co),.d (.int .i64 (bif lkRE m l != 0 then Sts.zero else s).nu),.d (.slice 3 (ens (bif lkRE m l != 0 then Sts.zero else s).es))],.box [.d (.int .i64 (bif joRE m nm w c0 != 0 then Sts.zero else s.joined).co),.d (.int .i64 (bif joRE m nm w c0 != 0 then Sts.zero else s.joined).nu),.d (.slice 3 (ens (bif joRE m nm w c0 != 0 then Sts.zero else s.joined).es))],.box [.d (.int .i64 0),.d (.int .i64 0),.nils 3]]⟩)
  (h2:m.chkS s=0→¬ i < 0→Q .normal ⟨s12 m s i l nm w c0 ((18,.d (.int .i64 (m.chkS s)))::(19,.d (.int .i64 (bif decide (((lks m.ls).length:Int)≤i) then 10 else 0:Int)))::(20,.d (.int .i64 (lkRE m l)))::(21,.d (.int .i64 (joRE m nm w c0)))::(22,.d (.int .i64 (m.nodeE w)))::t12),h12 m s i l nm w c0 a b c x y z u [.box [.nils 1,.nils 3],.box [.d (.slice 1 (strs (bif lkRE m l != 0 then Ms.zero else m.plus l).ns)),.d (.slice 3 (lks (bif lkRE m l != 0 then Ms.zero else m.plus l).ls))],.box [.d (.slice 1 (strs (bif joRE m nm w c0 != 0 then Ms.zero else m.joined nm w c0).ns)),.d (.slice 3 (lks (bif joRE m nm w c0 != 0 then Ms.zero else m.joined nm w c0).ls))],.box [.d (.int .i64 0),.d (.int .i64 0),.nils 3],.box [.d (.int .i64 (bif lkRE m l != 0 then Sts.zero else s).co),.d (.int .i64 (bif lkRE m l != 0 then Sts.zero else s).nu),.d (.slice 3 (ens (bif lkRE m l != 0 then Sts.zero else s).es))],.box [.d (.int .i64 (bif joRE m nm w c0 != 0 then Sts.zero else s.joined).co),.d (.int .i64 (bif joRE m nm w c0 != 0 then Sts.zero else s.joined).nu),.d (.slice 3 (ens (bif joRE m nm w c0 != 0 then Sts.zero else s.joined).es))],.box [.d (.int .i64 0),.d (.int .i64 0),.nils 3]]⟩)
  (h3:¬ m.chkS s=0→Q .normal ⟨s12 m s i l nm w c0 ((18,.d (.int .i64 (m.chkS s)))::(19,.d (.int .i64 (m.chkS s)))::(20,.d (.int .i64 (m.chkS s)))::(21,.d (.int .i64 (m.chkS s)))::(22,.d (.int .i64 (m.chkS s)))::t12),h12 m s i l nm w c0 a b c x y z u [.box [.nils 1,.nils 3],.box [.nils 1,.nils 3],.box [.nils 1,.nils 3],.box [.d (.int .i64 0),.d (.int .i64 0),.nils 3],.box [.d (.int .i64 0),.d (.int .i64 0),.nils 3],.box [.d (.int .i64 0),.d (.int .i64 0),.nils 3],.box [.d (.int .i64 0),.d (.int .i64 0),.nils 3]]⟩) :
  vc Tryz.prog n seg12h ⟨s12 m s i l nm w c0 ((18,.d (.int .i64 (m.chkS s)))::(19,.d (.int .i64 (m.chkS s)))::(20,.d (.int .i64 (m.chkS s)))::(21,.d (.int .i64 (m.chkS s)))::(22,.d (.int .i64 (m.chkS s)))::t12),h12 m s i l nm w c0 a b c x y z u [.box [.nils 1,.nils 3],.box [.nils 1,.nils 3],.box [.nils 1,.nils 3],.box [.d (.int .i64 0),.d (.int .i64 0),.nils 3],.box [.d (.int .i64 0),.d (.int .i64 0),.nils 3],.box [.d (.int .i64 0),.d (.int .i64 0),.nils 3],.box [.d (.int .i64 0),.d (.int .i64 0),.nils 3]]⟩ Q:=by
 unfold seg12h s12 t12 h12
 have hll:=lks_len m.ls
 refine sd ?_
 refine b_eq (fun t1=>?_) (fun t1=>?_)
 refine sd ?_
 refine b_lt (fun t2=>?_) (fun t2=>?_)
 refine sd ?_
 refine ca (c49 _ _) ?_
 refine ca (c72 m s l (by omega) (by omega) (by omega)) ?_
 refine ca (c73 m s nm w c0 (by omega) (by omega) (by omega)) ?_
 refine ca (c23 m w) ?_
 rotate_left
 refine sd ?_
 refine ca (c49 _ _) ?_
 refine ca (c72 m s l (by omega) (by omega) (by omega)) ?_
 refine ca (c73 m s nm w c0 (by omega) (by omega) (by omega)) ?_
 refine ca (c23 m w) ?_
 rotate_left
 rotate_left
 ·exact h1 ‹_› ‹_›
 ·exact h2 ‹_› ‹_›
 ·exact h3 ‹_›
theorem rng_ok {len i n:Int} (h:¬ i < 0) (e:len=n) (h2:(bif decide (len≤i) then 10 else 0:Int)=0):0≤i∧i < n:=by
 by_cases hl:len≤i
 ·rw [decide_eq_true hl] at h2; exact absurd h2 (by decide)
 ·omega
theorem zc {α:Type} {e b:Int} {z w:α} (h:e=b):(bif e != 0 then z else w)=bif b != 0 then z else (bif b != 0 then z else w):=zb h (fun k=>by rw [k]; rfl)
theorem v12g {n : Nat} {Q : AExit → St → Prop} (c16_ : CallDet Tryz.prog 16 [] [.bool true]) (m : Ms) (s : Sts) (i : Int) (l : Lk) (nm : List UInt8) (w c0 : Int) (hm : m.ns.length ≤ 1048570) (hl2 : m.ls.length ≤ 1048570) (hn : s.es.length ≤ 1048570) (a b c : Ms) (x y z u : Sts)
  (ha:a=bif brokE m s i != 0 then Ms.zero else m.brok i) (hx:x=bif brokE m s i != 0 then Sts.zero else s.brok m i)
  (hb:b=bif linkdE m s l != 0 then Ms.zero else m.plus l) (hy:y=bif linkdE m s l != 0 then Sts.zero else s)
  (hc:c=bif joinE m s nm w c0 != 0 then Ms.zero else m.joined nm w c0) (hz:z=bif joinE m s nm w c0 != 0 then Sts.zero else s.joined) (hu:u=bif elecE m s w != 0 then Sts.zero else s.elec w)
  (la:a.ns.length≤1048576∧a.ls.length≤1048576∧x.es.length≤1048576) (lb:b.ns.length≤1048576∧b.ls.length≤1048576∧y.es.length≤1048576) (lc:c.ns.length≤1048576∧c.ls.length≤1048576∧z.es.length≤1048576) (lu:u.es.length≤1048576)
  (h:Q .ret ⟨[(6,.d (.bool true))],[.none,.none,.none,.none,.none,.none,.none,.none,.none,.none,.none,.none,.none,.none,.none,.none,.none]⟩) :
  vc Tryz.prog n seg12g ⟨s12 m s i l nm w c0 [],h12 m s i l nm w c0 a b c x y z u [.none,.none,.none,.none,.none,.none,.none]⟩ Q:=by
 unfold seg12g s12 h12
 have hll:=lks_len m.ls
 have b1:m.chkS s=0→i < 0→brokE m s i=10:=fun h h2=>by unfold brokE outN; rw [first_0 h,decide_eq_true h2]; rfl
 have b2:m.chkS s=0→¬ i < 0→brokE m s i=bif decide (((lks m.ls).length:Int)≤i) then 10 else 0:=fun h h2=>by unfold brokE outN; rw [first_0 h,decide_eq_false h2,first_one,hll]; rfl
 have b3:¬ m.chkS s=0→brokE m s i=m.chkS s:=fun h=>first_1 h
 have b4:((lks m.ls).length:Int)≤i→(bif decide (((lks m.ls).length:Int)≤i) then 10 else 0:Int)=10:=fun h=>by rw [decide_eq_true h]; rfl
 have b5:¬ ((lks m.ls).length:Int)≤i→(bif decide (((lks m.ls).length:Int)≤i) then 10 else 0:Int)=0:=fun h=>by rw [decide_eq_false h]; rfl
 have l1:m.chkS s=0→linkdE m s l=lkRE m l:=fun h=>by
  have h128:=(chk_fine (good_of h).chk).l128
  unfold linkdE lkRE
  rw [first_0 h,show ((m.ls.length:Int)==128)=decide (128≤(m.ls.length:Int)) by rw [Bool.eq_iff_iff,beq_iff_eq,decide_eq_true_iff]; omega]
 have l3:¬ m.chkS s=0→linkdE m s l=m.chkS s:=fun h=>first_1 h
 have j1:m.chkS s=0→joinE m s nm w c0=joRE m nm w c0:=fun h=>by
  have hf:=chk_fine (good_of h).chk
  have h128:=hf.l128
  have h32:=hf.n32
  unfold joinE joinA joRE fullB
  rw [first_0 h,show ((m.ls.length:Int)==128)=decide (128≤(m.ls.length:Int)) by rw [Bool.eq_iff_iff,beq_iff_eq,decide_eq_true_iff]; omega,show ((m.ns.length:Int)==32)=decide (32≤(m.ns.length:Int)) by rw [Bool.eq_iff_iff,beq_iff_eq,decide_eq_true_iff]; omega]
  generalize (bif !(isNm nm) then 8 else 0:Int)=A
  generalize (bif m.ns.contains nm then 9 else 0:Int)=B
  generalize m.nodeE w=C
  generalize within3 c0 1 100=D
  by_cases hA:A=0
  ·rw [first_0 hA,first_0 hA]
   by_cases hB:B=0
   ·rw [first_0 hB,first_0 hB]
    by_cases hC:C=0
    ·rw [first_0 hC,first_0 hC]
     by_cases hD:D=0
     ·rw [first_0 hD,first_0 hD]
      cases decide (32≤(m.ns.length:Int)) <;> cases decide (128≤(m.ls.length:Int)) <;> rfl
     ·rw [first_1 hD,first_1 hD]; exact if_1 hD
    ·rw [first_1 hC,first_1 hC]; exact if_1 hC
   ·rw [first_1 hB,first_1 hB]; exact if_1 hB
  ·rw [first_1 hA,first_1 hA]; exact if_1 hA
 have j3:¬ m.chkS s=0→joinE m s nm w c0=m.chkS s:=fun h=>by unfold joinE joinA; rw [first_1 h]; exact if_1 h
 have d1:m.chkS s=0→m.nodeE w=0→elecE m s w=elRE s w:=fun h h2=>by
  have hnu:=(good_of h).nu
  unfold elecE elRE
  rw [first_0 h,first_0 h2,show (s.nu==1000000)=decide (1000000≤s.nu) by rw [Bool.eq_iff_iff,beq_iff_eq,decide_eq_true_iff]; omega]
  cases (w==s.co)
  ·cases decide (1000000≤s.nu) <;> rfl
  ·rfl
 have d2:m.chkS s=0→¬ m.nodeE w=0→elecE m s w=m.nodeE w:=fun h h2=>by unfold elecE; rw [first_0 h]; exact first_1 h2
 have d3:¬ m.chkS s=0→elecE m s w=m.chkS s:=fun h=>first_1 h
 refine ca (c34 m s (by omega) (by omega) (by omega)) ?_
 rotate_left
 refine v12h m s i l nm w c0 hm hl2 hn a b c x y z u (fun k1 k2=>?_) (fun k1 k2=>?_) (fun k1=>?_)
 ·unfold s12 t12 h12
  rotate_left
  refine v12i _ _ _ _ _ _ _ _ _ _ m s i l nm w c0 hm hl2 hn a b c x y z u 10 _ _ _ (fun h=>absurd h (by decide)) (fun h=>absurd h (by decide)) (fun q1=>?_)
  unfold s12 t12 h12
  rotate_left
  refine v12j _ _ _ _ _ _ _ _ _ _ _ _ _ _ _ m s i l nm w c0 hm hl2 hn a b c x y z u 10 _ _ (m.nodeE w) (fun h=>⟨k1,h⟩) (fun q2=>?_) (fun q2=>?_)
  ·unfold s12 t12 h12
   rotate_left
   ·refine v12f3 _ _ _ _ _ _ _ _ _ _ _ _ _ _ _ _ _ _ _ _ c16_ la.1 la.2.1 la.2.2 (b1 k1 k2) (ha.trans (zb (b1 k1 k2) (fun h=>absurd h (by decide)))) (hx.trans (zb (b1 k1 k2) (fun h=>absurd h (by decide)))) lb.1 lb.2.1 lb.2.2 (l1 k1) (hb.trans (zc (l1 k1))) (hy.trans (zc (l1 k1))) lc.1 lc.2.1 lc.2.2 (j1 k1) (hc.trans (zc (j1 k1))) (hz.trans (zc (j1 k1))) lu (d1 k1 q2) (hu.trans (zc (d1 k1 q2))) ?_
    rotate_left
    exact h
  ·unfold s12 t12 h12
   rotate_left
   ·refine v12f1 _ _ _ _ _ _ _ _ _ _ _ _ _ _ _ _ _ _ _ c16_ la.1 la.2.1 la.2.2 (b1 k1 k2) (ha.trans (zb (b1 k1 k2) (fun h=>absurd h (by decide)))) (hx.trans (zb (b1 k1 k2) (fun h=>absurd h (by decide)))) lb.1 lb.2.1 lb.2.2 (l1 k1) (hb.trans (zc (l1 k1))) (hy.trans (zc (l1 k1))) lc.1 lc.2.1 lc.2.2 (j1 k1) (hc.trans (zc (j1 k1))) (hz.trans (zc (j1 k1))) lu (d2 k1 q2) (hu.trans (zb (d2 k1 q2) (fun h=>absurd h q2))) ?_
    rotate_left
    exact h
 ·unfold s12 t12 h12
  rotate_left
  refine v12i _ _ _ _ _ _ _ _ _ _ m s i l nm w c0 hm hl2 hn a b c x y z u (bif decide (((lks m.ls).length:Int)≤i) then 10 else 0:Int) _ _ _ (fun h=>⟨k1,rng_ok k2 (by omega) h⟩) (fun q1=>?_) (fun q1=>?_)
  ·skip
   unfold s12 t12 h12
   rotate_left
   refine v12j _ _ _ _ _ _ _ _ _ _ _ _ _ _ _ m s i l nm w c0 hm hl2 hn a b c x y z u (bif decide (((lks m.ls).length:Int)≤i) then 10 else 0:Int) _ _ (m.nodeE w) (fun h=>⟨k1,h⟩) (fun q2=>?_) (fun q2=>?_)
   ·unfold s12 t12 h12
    rotate_left
    ·refine v12f4 _ _ _ _ _ _ _ _ _ _ _ _ _ _ _ _ _ _ _ _ _ _ c16_ la.1 la.2.1 la.2.2 (b2 k1 k2) (ha.trans (zb (b2 k1 k2) (fun _=>rfl))) (hx.trans (zb (b2 k1 k2) (fun _=>rfl))) lb.1 lb.2.1 lb.2.2 (l1 k1) (hb.trans (zc (l1 k1))) (hy.trans (zc (l1 k1))) lc.1 lc.2.1 lc.2.2 (j1 k1) (hc.trans (zc (j1 k1))) (hz.trans (zc (j1 k1))) lu (d1 k1 q2) (hu.trans (zc (d1 k1 q2))) ?_
     rotate_left
     exact h
   ·unfold s12 t12 h12
    rotate_left
    ·refine v12f2 _ _ _ _ _ _ _ _ _ _ _ _ _ _ _ _ _ _ _ _ _ c16_ la.1 la.2.1 la.2.2 (b2 k1 k2) (ha.trans (zb (b2 k1 k2) (fun _=>rfl))) (hx.trans (zb (b2 k1 k2) (fun _=>rfl))) lb.1 lb.2.1 lb.2.2 (l1 k1) (hb.trans (zc (l1 k1))) (hy.trans (zc (l1 k1))) lc.1 lc.2.1 lc.2.2 (j1 k1) (hc.trans (zc (j1 k1))) (hz.trans (zc (j1 k1))) lu (d2 k1 q2) (hu.trans (zb (d2 k1 q2) (fun h=>absurd h q2))) ?_
     rotate_left
     exact h
  ·skip
   unfold s12 t12 h12
   rotate_left
   refine v12j _ _ _ _ _ _ _ _ _ _ _ _ _ _ _ m s i l nm w c0 hm hl2 hn a b c x y z u (bif decide (((lks m.ls).length:Int)≤i) then 10 else 0:Int) _ _ (m.nodeE w) (fun h=>⟨k1,h⟩) (fun q2=>?_) (fun q2=>?_)
   ·unfold s12 t12 h12
    rotate_left
    ·refine v12f3 _ _ _ _ _ _ _ _ _ _ _ _ _ _ _ _ _ _ _ _ c16_ la.1 la.2.1 la.2.2 (b2 k1 k2) (ha.trans (zb (b2 k1 k2) (fun h=>absurd h q1))) (hx.trans (zb (b2 k1 k2) (fun h=>absurd h q1))) lb.1 lb.2.1 lb.2.2 (l1 k1) (hb.trans (zc (l1 k1))) (hy.trans (zc (l1 k1))) lc.1 lc.2.1 lc.2.2 (j1 k1) (hc.trans (zc (j1 k1))) (hz.trans (zc (j1 k1))) lu (d1 k1 q2) (hu.trans (zc (d1 k1 q2))) ?_
     rotate_left
     exact h
   ·unfold s12 t12 h12
    rotate_left
    ·refine v12f1 _ _ _ _ _ _ _ _ _ _ _ _ _ _ _ _ _ _ _ c16_ la.1 la.2.1 la.2.2 (b2 k1 k2) (ha.trans (zb (b2 k1 k2) (fun h=>absurd h q1))) (hx.trans (zb (b2 k1 k2) (fun h=>absurd h q1))) lb.1 lb.2.1 lb.2.2 (l1 k1) (hb.trans (zc (l1 k1))) (hy.trans (zc (l1 k1))) lc.1 lc.2.1 lc.2.2 (j1 k1) (hc.trans (zc (j1 k1))) (hz.trans (zc (j1 k1))) lu (d2 k1 q2) (hu.trans (zb (d2 k1 q2) (fun h=>absurd h q2))) ?_
     rotate_left
     exact h
 ·unfold s12 t12 h12
  rotate_left
  refine v12i _ _ _ _ _ _ _ _ _ _ m s i l nm w c0 hm hl2 hn a b c x y z u (m.chkS s) _ _ _ (fun h=>absurd h k1) (fun h=>absurd h k1) (fun q1=>?_)
  unfold s12 t12 h12
  rotate_left
  refine v12j _ _ _ _ _ _ _ _ _ _ _ _ _ _ _ m s i l nm w c0 hm hl2 hn a b c x y z u (m.chkS s) _ _ (m.chkS s) (fun h=>absurd h k1) (fun h=>absurd h k1) (fun q2=>?_)
  unfold s12 t12 h12
  rotate_left
  ·refine v12f0 _ _ _ _ _ _ _ _ _ _ _ _ _ _ _ c16_ la.1 la.2.1 la.2.2 (b3 k1) (ha.trans (zb (b3 k1) (fun h=>absurd h k1))) (hx.trans (zb (b3 k1) (fun h=>absurd h k1))) lb.1 lb.2.1 lb.2.2 (l3 k1) (hb.trans (zb (l3 k1) (fun h=>absurd h k1))) (hy.trans (zb (l3 k1) (fun h=>absurd h k1))) lc.1 lc.2.1 lc.2.2 (j3 k1) (hc.trans (zb (j3 k1) (fun h=>absurd h k1))) (hz.trans (zb (j3 k1) (fun h=>absurd h k1))) lu (d3 k1) (hu.trans (zb (d3 k1) (fun h=>absurd h k1))) ?_
   rotate_left
   exact h
theorem c12 (hw : CallDet Tryz.prog 16 [] [.bool true]) (m : Ms) (s : Sts) (i : Int) (l : Lk) (nm : List UInt8) (w c : Int) (hm : m.ns.length ≤ 1048570) (hl2 : m.ls.length ≤ 1048570) (hn : s.es.length ≤ 1048570) :
  CallDet Tryz.prog 12 [.d m.d,.d s.d,.d (.agg [.int .i64 i,.int .i64 l.a,.int .i64 l.b,.int .i64 l.c,.str nm,.int .i64 w,.int .i64 c])] [.bool true]:=by
 have c16_:=hw
 have n1:(m.brok i).ls.length≤m.ls.length:=List.length_eraseIdx_le m.ls i.toNat
 have n2:(m.brok i).ns.length=m.ns.length:=rfl
 have n3:(m.plus l).ls.length=m.ls.length+1:=by unfold Ms.plus; rw [List.length_append]; rfl
 have n4:(m.plus l).ns.length=m.ns.length:=rfl
 have n5:(m.joined nm w c).ls.length=m.ls.length+1:=by unfold Ms.joined; rw [List.length_append]; rfl
 have n6:(m.joined nm w c).ns.length=m.ns.length+1:=by unfold Ms.joined; rw [List.length_append]; rfl
 have n7:=brok_len s m i
 have n8:s.joined.es.length=s.es.length+1:=by unfold Sts.joined; rw [List.length_append]; rfl
 have n9:(s.elec w).es.length=s.es.length:=by unfold Sts.elec; rw [List.length_set,List.length_set]
 refine call_of_vc (x:=ir12) (by kernel_rfl) rfl ?_
 refine ca (c15 m (by omega)) ?_
 refine b_intro (fun t1=>?_) (fun t1=>?_)
 refine sd ?_
 refine sd ?_
 refine ca c16_ ?_
 exact rfl
 refine ca (c30 s) ?_
 refine b_intro (fun t2=>?_) (fun t2=>?_)
 replace t2:(!(decide ((↑(List.length (Sts.es s)):Int)≤(9:Int))||(↑(List.length (Sts.es s)):Int)==(33:Int)))=true:=t2
 refine sd ?_
 refine ca c16_ ?_
 exact rfl
 replace t2:(!(decide ((↑(List.length (Sts.es s)):Int)≤(9:Int))||(↑(List.length (Sts.es s)):Int)==(33:Int)))=false:=t2
 refine sd ?_
 refine b_lt (fun t3=>?_) (fun t3=>?_)
 refine ca c16_ ?_
 exact rfl
 refine ca (c18 m (by omega) (by omega)) ?_
 refine ca (c33 s (by omega)) ?_
 refine ca (c60 m s i (by omega) (by omega) (by omega)) ?_
 refine ca (c18 m (by omega) (by omega)) ?_
 refine ca (c33 s (by omega)) ?_
 refine ca (c68 m s l (by omega) (by omega) (by omega)) ?_
 refine ca (c18 m (by omega) (by omega)) ?_
 refine ca (c33 s (by omega)) ?_
 refine ca (c71 m s nm w c (by omega) (by omega) (by omega)) ?_
 refine ca (c18 m (by omega) (by omega)) ?_
 refine ca (c33 s (by omega)) ?_
 refine ca (c62 m s w (by omega) (by omega) (by omega)) ?_
 rotate_left
 all_goals
  refine v12g hw m s i l nm w c (by omega) (by omega) (by omega) _ _ _ _ _ _ _ rfl rfl rfl rfl rfl rfl rfl ⟨if_ms (by omega),if_ml (by omega),if_lenE (by omega)⟩ ⟨if_ms (by omega),if_ml (by omega),if_lenE (by omega)⟩ ⟨if_ms (by omega),if_ml (by omega),if_lenE (by omega)⟩ (if_lenE (by omega)) ?_
  exact rfl
end Vc
