import Derived.Test.YtokkgdokamjnaaaGreatG06
import Derived.Test.YtokkgdokamjnaaaGreatRows
set_option linter.unusedSectionVars false
set_option linter.unusedVariables false
set_option linter.unusedSimpArgs false
set_option maxRecDepth 100000
namespace Vc
open Go Go.Proofs
abbrev oo (d : Nat) (x : AOp) : AOper := ⟨some d, x, none⟩
abbrev ot (d : Nat) : Opd := .tmp d
def tx6:AFun:=⟨96,50,[.tmp 0],
 (.seq
 (.reg [] [oo 0 (.mov (.cst (.d (.bool false))))])
 (.seq
 (.reg [0] [oo 16 (.build [(.d (.int .u8 0)),(.d (.int .u8 0)),(.d (.int .u8 0)),(.d (.int .u8 0)),(.d (.int .u8 0)),(.d (.int .u8 0)),(.d (.int .u8 0)),(.d (.int .u8 0))] [(0,1,(.cst (.d (.int .u8 1))))]),
 oo 17 (.call 19 [(ot 16),(.cst (.d (.int .i64 3))),(.cst (.d (.int .i64 50)))]),
 oo 15 (.mov (ot 17)),
 oo 18 (.ext 0 (ot 15)),
 oo 19 (.ext 1 (ot 15)),
 oo 1 (.alloc 0 [(.d (.int .i64 0)),(.d (.int .i64 0)),(.d (.int .u8 0)),(.d (.int .u8 0)),(.d (.int .u8 0)),(.d (.int .u8 0)),(.d (.int .u8 0)),(.d (.int .u8 0)),(.d (.int .u8 0)),(.d (.int .u8 0))]),
 ⟨none,.st 10 (ot 1) (ot 18),none⟩,
 oo 2 (.mov (ot 19))])
 (.seq
 (.reg [1] [oo 21 (.ld true 10 (ot 1)),
 oo 22 (.call 20 [(ot 21)]),
 oo 20 (.mov (ot 22)),
 oo 23 (.ext 0 (ot 20)),
 oo 24 (.ext 1 (ot 20)),
 oo 3 (.alloc 1 [(.d (.int .u8 0)),(.d (.int .u8 0)),(.d (.int .u8 0)),(.d (.int .u8 0)),(.d (.int .u8 0)),(.d (.int .u8 0)),(.d (.int .u8 0)),(.d (.int .u8 0)),(.d (.int .u8 0)),(.d (.int .u8 0)),(.d (.int .u8 0)),(.d (.int .u8 0)),(.d (.int .u8 0)),(.d (.int .u8 0)),(.d (.int .u8 0)),(.d (.int .u8 0))]),
 ⟨none,.st 16 (ot 3) (ot 23),none⟩,
 oo 4 (.mov (ot 24))])
 (.seq
 (.reg [2] [oo 26 (.build [(.d (.int .u8 0)),(.d (.int .u8 0)),(.d (.int .u8 0)),(.d (.int .u8 0)),(.d (.int .u8 0)),(.d (.int .u8 0)),(.d (.int .u8 0)),(.d (.int .u8 0))] [(0,1,(.cst (.d (.int .u8 2))))]),
 oo 27 (.ld true 16 (ot 3)),
 oo 28 (.build [(.d (.int .i64 0)),(.d (.int .i64 0)),(.d (.int .i64 0)),(.d (.int .u8 0)),(.d (.int .u8 0)),(.d (.int .u8 0)),(.d (.int .u8 0)),(.d (.int .u8 0)),(.d (.int .u8 0)),(.d (.int .u8 0)),(.d (.int .u8 0)),(.d (.int .u8 0)),(.d (.int .u8 0)),(.d (.int .u8 0)),(.d (.int .u8 0)),(.d (.int .u8 0)),(.d (.int .u8 0)),(.d (.int .u8 0)),(.d (.int .u8 0))] [(0,1,(.cst (.d (.int .i64 1)))),(1,1,(.cst (.d (.int .i64 3)))),(2,1,(.cst (.d (.int .i64 8)))),(3,16,(ot 27))]),
 oo 29 (.call 21 [(ot 26),(ot 28)]),
 oo 25 (.mov (ot 29)),
 oo 30 (.ext 0 (ot 25)),
 oo 31 (.ext 1 (ot 25)),
 oo 5 (.alloc 2 [(.d (.int .u8 0)),(.d (.int .u8 0)),(.d (.int .u8 0)),(.d (.int .u8 0)),(.d (.int .u8 0)),(.d (.int .u8 0)),(.d (.int .u8 0)),(.d (.int .u8 0)),(.d (.int .u8 0)),(.d (.int .u8 0)),(.d (.int .u8 0)),(.d (.int .u8 0)),(.d (.int .u8 0)),(.d (.int .u8 0)),(.d (.int .u8 0)),(.d (.int .u8 0)),(.d (.int .u8 0)),(.d (.int .u8 0)),(.d (.int .u8 0)),(.d (.int .u8 0)),(.d (.int .u8 0)),(.d (.int .u8 0)),(.d (.int .u8 0)),(.d (.int .u8 0)),(.d (.int .u8 0)),(.d (.int .u8 0)),(.d (.int .u8 0)),(.d (.int .u8 0)),(.d (.int .u8 0)),(.d (.int .u8 0)),(.d (.int .u8 0)),(.d (.int .u8 0))]),
 ⟨none,.st 32 (ot 5) (ot 30),none⟩,
 oo 6 (.mov (ot 31))])
 (.seq
 (.regd [3,4,5] [oo 33 (.build [(.d (.int .u8 0)),(.d (.int .u8 0)),(.d (.int .u8 0)),(.d (.int .u8 0)),(.d (.int .u8 0)),(.d (.int .u8 0)),(.d (.int .u8 0)),(.d (.int .u8 0))] [(0,1,(.cst (.d (.int .u8 2))))]),
 oo 34 (.bsl 3 5 1 0 [] []),
 oo 35 (.sla 32 (ot 5) none none),
 oo 36 (.app 4 5 1 1 (ot 34) (ot 35)),
 oo 37 (.sla 32 (ot 5) none none),
 oo 38 (.app 5 5 1 1 (ot 36) (ot 37)),
 oo 39 (.call 22 [(ot 33),(ot 38)]),
 oo 32 (.mov (ot 39)),
 oo 40 (.ext 0 (ot 32)),
 oo 41 (.ext 1 (ot 32)),
 oo 42 (.ext 2 (ot 32)),
 oo 7 (.mov (ot 40)),
 oo 8 (.mov (ot 41)),
 oo 9 (.mov (ot 42))] [(0,1),(0,2),(1,2),(0,3),(0,4),(1,4),(2,4),(3,4),(0,5),(8,9),(8,10),(9,10),(9,11),(10,11),(10,12)])
 (.seq
 (.seq
 (.reg [] [oo 43 (.mov (ot 2)),
 oo 44 (.cmp .neq (ot 43) (.cst (.d (.int .i64 0)))),
 oo 45 (.mov (ot 44)),
 ⟨some 46,.mov (ot 4),some (45,false)⟩,
 ⟨some 47,.cmp .neq (ot 46) (.cst (.d (.int .i64 0))),some (45,false)⟩,
 oo 48 (.pick (ot 45) (.cst (.d (.bool true))) (ot 47)),
 oo 49 (.mov (ot 48)),
 ⟨some 50,.mov (ot 6),some (49,false)⟩,
 ⟨some 51,.cmp .neq (ot 50) (.cst (.d (.int .i64 0))),some (49,false)⟩,
 oo 52 (.pick (ot 49) (.cst (.d (.bool true))) (ot 51)),
 oo 53 (.mov (ot 52)),
 ⟨some 54,.mov (ot 9),some (53,false)⟩,
 ⟨some 55,.cmp .neq (ot 54) (.cst (.d (.int .i64 0))),some (53,false)⟩,
 oo 56 (.pick (ot 53) (.cst (.d (.bool true))) (ot 55)),
 oo 57 (.mov (ot 56)),
 ⟨some 58,.mov (ot 7),some (57,false)⟩,
 ⟨some 59,.len (ot 58),some (57,false)⟩,
 ⟨some 60,.cmp .neq (ot 59) (.cst (.d (.int .i64 2))),some (57,false)⟩,
 oo 61 (.pick (ot 57) (.cst (.d (.bool true))) (ot 60))])
 (.cond (ot 61)
 (.seq
 (.reg [] [oo 0 (.mov (.cst (.d (.bool false))))])
 .ret)
 .skip))
 (.seq
 (.reg [6] [oo 63 (.mov (ot 7)),
 oo 64 (.ixa 19 (ot 63) (.cst (.d (.int .i64 1)))),
 oo 65 (.fad 3 (ot 64)),
 oo 66 (.ld true 16 (ot 65)),
 oo 67 (.call 23 [(ot 66)]),
 oo 62 (.mov (ot 67)),
 oo 68 (.ext 0 (ot 62)),
 oo 69 (.ext 1 (ot 62)),
 oo 10 (.alloc 6 [(.d (.int .i64 0)),(.d (.int .i64 0)),(.d (.int .u8 0)),(.d (.int .u8 0)),(.d (.int .u8 0)),(.d (.int .u8 0)),(.d (.int .u8 0)),(.d (.int .u8 0)),(.d (.int .u8 0)),(.d (.int .u8 0))]),
 ⟨none,.st 10 (ot 10) (ot 68),none⟩,
 oo 11 (.mov (ot 69))])
 (.seq
 (.reg [7,8] [oo 71 (.build [(.d (.int .u8 0)),(.d (.int .u8 0)),(.d (.int .u8 0)),(.d (.int .u8 0)),(.d (.int .u8 0)),(.d (.int .u8 0)),(.d (.int .u8 0)),(.d (.int .u8 0))] [(0,1,(.cst (.d (.int .u8 1))))]),
 oo 72 (.build [(.d (.int .i64 0)),(.d (.int .i64 0)),(.d (.int .i64 0)),(.d (.int .i64 0)),(.d (.int .u8 0)),(.d (.int .u8 0)),(.d (.int .u8 0)),(.d (.int .u8 0)),(.d (.int .u8 0)),(.d (.int .u8 0)),(.d (.int .u8 0)),(.d (.int .u8 0)),(.d (.int .u8 0)),(.d (.int .u8 0)),(.d (.int .u8 0)),(.d (.int .u8 0)),(.d (.int .u8 0)),(.d (.int .u8 0)),(.d (.int .u8 0)),(.d (.int .u8 0)),(.d (.bool false)),(.nils 1)] [(4,8,(ot 71))]),
 oo 73 (.ld true 10 (ot 10)),
 oo 74 (.ld true 10 (ot 10)),
 oo 75 (.bsl 7 73 10 2 [(.agg [(.int .i64 0),(.int .i64 0),(.int .u8 0),(.int .u8 0),(.int .u8 0),(.int .u8 0),(.int .u8 0),(.int .u8 0),(.int .u8 0),(.int .u8 0)]),(.agg [(.int .i64 0),(.int .i64 0),(.int .u8 0),(.int .u8 0),(.int .u8 0),(.int .u8 0),(.int .u8 0),(.int .u8 0),(.int .u8 0),(.int .u8 0)])] [(0,(ot 73)),(1,(ot 74))]),
 oo 76 (.call 24 [(ot 72),(ot 75)]),
 oo 70 (.mov (ot 76)),
 oo 77 (.ext 0 (ot 70)),
 oo 78 (.ext 1 (ot 70)),
 oo 79 (.ext 2 (ot 70)),
 oo 12 (.alloc 8 [(.d (.int .i64 0)),(.d (.int .i64 0)),(.d (.int .i64 0)),(.d (.int .i64 0)),(.d (.int .u8 0)),(.d (.int .u8 0)),(.d (.int .u8 0)),(.d (.int .u8 0)),(.d (.int .u8 0)),(.d (.int .u8 0)),(.d (.int .u8 0)),(.d (.int .u8 0)),(.d (.int .u8 0)),(.d (.int .u8 0)),(.d (.int .u8 0)),(.d (.int .u8 0)),(.d (.int .u8 0)),(.d (.int .u8 0)),(.d (.int .u8 0)),(.d (.int .u8 0)),(.d (.bool false)),(.nils 1)]),
 ⟨none,.st 22 (ot 12) (ot 77),none⟩,
 oo 13 (.mov (ot 78)),
 oo 14 (.mov (ot 79))])
 (.seq
 (.reg [9] [oo 80 (.mov (ot 11)),
 oo 81 (.cmp .eql (ot 80) (.cst (.d (.int .i64 0)))),
 oo 82 (.mov (ot 81)),
 ⟨some 83,.mov (ot 14),some (82,true)⟩,
 ⟨some 84,.cmp .eql (ot 83) (.cst (.d (.int .i64 0))),some (82,true)⟩,
 oo 85 (.pick (ot 82) (ot 84) (.cst (.d (.bool false)))),
 oo 86 (.mov (ot 85)),
 ⟨some 87,.fad 0 (ot 12),some (86,true)⟩,
 ⟨some 88,.ld false 1 (ot 87),some (86,true)⟩,
 ⟨some 89,.cmp .eql (ot 88) (.cst (.d (.int .i64 50))),some (86,true)⟩,
 oo 90 (.pick (ot 86) (ot 89) (.cst (.d (.bool false)))),
 oo 91 (.mov (ot 90)),
 ⟨some 92,.mov (ot 13),some (91,true)⟩,
 ⟨some 93,.bsl 9 3 1 1 [(.int .i64 0)] [(0,(.cst (.d (.int .i64 0))))],some (91,true)⟩,
 ⟨some 94,.call 25 [(ot 92),(ot 93)],some (91,true)⟩,
 oo 95 (.pick (ot 91) (ot 94) (.cst (.d (.bool false)))),
 oo 0 (.mov (ot 95))])
 .ret)))))))))⟩
def tx19:AFun:=⟨22,43,[.cell 6 10 true,.tmp 7],
 (.seq
 (.reg [0,1] [oo 3 (.cbx 0 8 (ot 0)),
 oo 6 (.alloc 1 [(.d (.int .i64 0)),(.d (.int .i64 0)),(.d (.int .u8 0)),(.d (.int .u8 0)),(.d (.int .u8 0)),(.d (.int .u8 0)),(.d (.int .u8 0)),(.d (.int .u8 0)),(.d (.int .u8 0)),(.d (.int .u8 0))]),
 oo 7 (.mov (.cst (.d (.int .i64 0))))])
 (.seq
 (.reg [2] [oo 10 (.mov (ot 1)),
 oo 11 (.mov (ot 2)),
 oo 12 (.build [(.d (.int .i64 0)),(.d (.int .i64 0)),(.d (.int .u8 0)),(.d (.int .u8 0)),(.d (.int .u8 0)),(.d (.int .u8 0)),(.d (.int .u8 0)),(.d (.int .u8 0)),(.d (.int .u8 0)),(.d (.int .u8 0))] [(0,1,(ot 10)),(1,1,(ot 11))]),
 oo 8 (.alloc 2 [(.d (.int .i64 0)),(.d (.int .i64 0)),(.d (.int .u8 0)),(.d (.int .u8 0)),(.d (.int .u8 0)),(.d (.int .u8 0)),(.d (.int .u8 0)),(.d (.int .u8 0)),(.d (.int .u8 0)),(.d (.int .u8 0))]),
 ⟨none,.st 10 (ot 8) (ot 12),none⟩])
 (.seq
 (.seq
 (.reg [] [oo 13 (.ld true 10 (ot 8)),
 oo 14 (.call 51 [(ot 13)]),
 oo 9 (.mov (ot 14))])
 (.seq
 (.reg [] [oo 15 (.mov (ot 9)),
 oo 16 (.cmp .neq (ot 15) (.cst (.d (.int .i64 0))))])
 (.cond (ot 16)
 (.seq
 (.reg [] [oo 17 (.build [(.d (.int .i64 0)),(.d (.int .i64 0)),(.d (.int .u8 0)),(.d (.int .u8 0)),(.d (.int .u8 0)),(.d (.int .u8 0)),(.d (.int .u8 0)),(.d (.int .u8 0)),(.d (.int .u8 0)),(.d (.int .u8 0))] []),
 oo 18 (.mov (ot 9)),
 ⟨none,.st 10 (ot 6) (ot 17),none⟩,
 oo 7 (.mov (ot 18))])
 .ret)
 .skip)))
 (.seq
 (.reg [] [oo 19 (.ld true 10 (ot 8)),
 oo 20 (.ld true 8 (ot 3)),
 oo 21 (.call 52 [(ot 19),(ot 20)]),
 ⟨none,.st 10 (ot 6) (ot 21),none⟩,
 oo 7 (.mov (.cst (.d (.int .i64 0))))])
 .ret))))⟩
def tx20:AFun:=⟨18,43,[.cell 2 16 true,.tmp 3],
 (.seq
 (.reg [0,1] [oo 1 (.cbx 0 10 (ot 0)),
 oo 2 (.alloc 1 [(.d (.int .u8 0)),(.d (.int .u8 0)),(.d (.int .u8 0)),(.d (.int .u8 0)),(.d (.int .u8 0)),(.d (.int .u8 0)),(.d (.int .u8 0)),(.d (.int .u8 0)),(.d (.int .u8 0)),(.d (.int .u8 0)),(.d (.int .u8 0)),(.d (.int .u8 0)),(.d (.int .u8 0)),(.d (.int .u8 0)),(.d (.int .u8 0)),(.d (.int .u8 0))]),
 oo 3 (.mov (.cst (.d (.int .i64 0))))])
 (.seq
 (.seq
 (.reg [] [oo 5 (.ld true 10 (ot 1)),
 oo 6 (.call 51 [(ot 5)]),
 oo 4 (.mov (ot 6))])
 (.seq
 (.reg [] [oo 7 (.mov (ot 4)),
 oo 8 (.cmp .neq (ot 7) (.cst (.d (.int .i64 0))))])
 (.cond (ot 8)
 (.seq
 (.reg [] [oo 9 (.build [(.d (.int .u8 0)),(.d (.int .u8 0)),(.d (.int .u8 0)),(.d (.int .u8 0)),(.d (.int .u8 0)),(.d (.int .u8 0)),(.d (.int .u8 0)),(.d (.int .u8 0)),(.d (.int .u8 0)),(.d (.int .u8 0)),(.d (.int .u8 0)),(.d (.int .u8 0)),(.d (.int .u8 0)),(.d (.int .u8 0)),(.d (.int .u8 0)),(.d (.int .u8 0))] []),
 oo 10 (.mov (ot 4)),
 ⟨none,.st 16 (ot 2) (ot 9),none⟩,
 oo 3 (.mov (ot 10))])
 .ret)
 .skip)))
 (.seq
 (.regd [2] [oo 11 (.ld true 10 (ot 1)),
 oo 12 (.calli 53 [(ot 11)]),
 oo 13 (.fad 2 (ot 1)),
 oo 14 (.sla 8 (ot 13) none none),
 oo 15 (.app 2 5 1 1 (ot 12) (ot 14)),
 oo 16 (.s2a 16 (ot 15)),
 oo 17 (.ld true 16 (ot 16)),
 ⟨none,.st 16 (ot 2) (ot 17),none⟩,
 oo 3 (.mov (.cst (.d (.int .i64 0))))] [(0,2),(1,2),(0,3),(1,3)])
 .ret)))⟩
def tx21:AFun:=⟨50,50,[.cell 4 32 true,.tmp 5],
 (.seq
 (.reg [0,1,2] [oo 2 (.cbx 0 8 (ot 0)),
 oo 3 (.cbx 1 19 (ot 1)),
 oo 4 (.alloc 2 [(.d (.int .u8 0)),(.d (.int .u8 0)),(.d (.int .u8 0)),(.d (.int .u8 0)),(.d (.int .u8 0)),(.d (.int .u8 0)),(.d (.int .u8 0)),(.d (.int .u8 0)),(.d (.int .u8 0)),(.d (.int .u8 0)),(.d (.int .u8 0)),(.d (.int .u8 0)),(.d (.int .u8 0)),(.d (.int .u8 0)),(.d (.int .u8 0)),(.d (.int .u8 0)),(.d (.int .u8 0)),(.d (.int .u8 0)),(.d (.int .u8 0)),(.d (.int .u8 0)),(.d (.int .u8 0)),(.d (.int .u8 0)),(.d (.int .u8 0)),(.d (.int .u8 0)),(.d (.int .u8 0)),(.d (.int .u8 0)),(.d (.int .u8 0)),(.d (.int .u8 0)),(.d (.int .u8 0)),(.d (.int .u8 0)),(.d (.int .u8 0)),(.d (.int .u8 0))]),
 oo 5 (.mov (.cst (.d (.int .i64 0))))])
 (.seq
 (.seq
 (.reg [] [oo 8 (.ld true 19 (ot 3)),
 oo 9 (.call 54 [(ot 8)]),
 oo 6 (.mov (ot 9))])
 (.seq
 (.reg [] [oo 10 (.mov (ot 6)),
 oo 11 (.cmp .neq (ot 10) (.cst (.d (.int .i64 0))))])
 (.cond (ot 11)
 (.seq
 (.reg [] [oo 12 (.build [(.d (.int .u8 0)),(.d (.int .u8 0)),(.d (.int .u8 0)),(.d (.int .u8 0)),(.d (.int .u8 0)),(.d (.int .u8 0)),(.d (.int .u8 0)),(.d (.int .u8 0)),(.d (.int .u8 0)),(.d (.int .u8 0)),(.d (.int .u8 0)),(.d (.int .u8 0)),(.d (.int .u8 0)),(.d (.int .u8 0)),(.d (.int .u8 0)),(.d (.int .u8 0)),(.d (.int .u8 0)),(.d (.int .u8 0)),(.d (.int .u8 0)),(.d (.int .u8 0)),(.d (.int .u8 0)),(.d (.int .u8 0)),(.d (.int .u8 0)),(.d (.int .u8 0)),(.d (.int .u8 0)),(.d (.int .u8 0)),(.d (.int .u8 0)),(.d (.int .u8 0)),(.d (.int .u8 0)),(.d (.int .u8 0)),(.d (.int .u8 0)),(.d (.int .u8 0))] []),
 oo 13 (.mov (ot 6)),
 ⟨none,.st 32 (ot 4) (ot 12),none⟩,
 oo 5 (.mov (ot 13))])
 .ret)
 .skip)))
 (.seq
 (.reg [3] [oo 14 (.bsl 3 5 1 1 [(.int .u8 0)] [(0,(.cst (.d (.int .u8 105))))]),
 oo 7 (.mov (ot 14))])
 (.seq
 (.reg [4] [oo 15 (.mov (ot 7)),
 oo 16 (.fad 0 (ot 3)),
 oo 17 (.ld false 1 (ot 16)),
 oo 18 (.call 55 [(ot 17),(.cst (.d (.int .i64 2)))]),
 oo 19 (.app 4 5 1 1 (ot 15) (ot 18)),
 oo 7 (.mov (ot 19))])
 (.seq
 (.reg [5] [oo 20 (.mov (ot 7)),
 oo 21 (.fad 1 (ot 3)),
 oo 22 (.ld false 1 (ot 21)),
 oo 23 (.call 55 [(ot 22),(.cst (.d (.int .i64 2)))]),
 oo 24 (.app 5 5 1 1 (ot 20) (ot 23)),
 oo 7 (.mov (ot 24))])
 (.seq
 (.reg [6] [oo 25 (.mov (ot 7)),
 oo 26 (.fad 2 (ot 3)),
 oo 27 (.ld false 1 (ot 26)),
 oo 28 (.call 55 [(ot 27),(.cst (.d (.int .i64 1)))]),
 oo 29 (.app 6 5 1 1 (ot 25) (ot 28)),
 oo 7 (.mov (ot 29))])
 (.seq
 (.reg [7] [oo 30 (.mov (ot 7)),
 oo 31 (.fad 3 (ot 3)),
 oo 32 (.sla 16 (ot 31) none none),
 oo 33 (.app 7 5 1 1 (ot 30) (ot 32)),
 oo 7 (.mov (ot 33))])
 (.seq
 (.regd [8,9] [oo 34 (.mov (ot 7)),
 oo 35 (.mov (ot 7)),
 oo 36 (.ixa 1 (ot 35) (.cst (.d (.int .i64 1)))),
 oo 37 (.ld false 1 (ot 36)),
 oo 38 (.arith .sub .u8 (.cst (.d (.int .u8 255))) (ot 37)),
 oo 39 (.mov (ot 7)),
 oo 40 (.ixa 1 (ot 39) (.cst (.d (.int .i64 2)))),
 oo 41 (.ld false 1 (ot 40)),
 oo 42 (.arith .sub .u8 (.cst (.d (.int .u8 255))) (ot 41)),
 oo 43 (.bsl 8 5 1 2 [(.int .u8 0),(.int .u8 0)] [(0,(ot 38)),(1,(ot 42))]),
 oo 44 (.app 9 5 1 1 (ot 34) (ot 43)),
 oo 7 (.mov (ot 44))] [(0,1),(0,2),(0,3),(0,4),(0,5),(1,5),(2,5),(3,5),(4,5),(0,6),(1,6),(2,6),(3,6),(4,6),(0,7),(1,7),(2,7),(3,7),(4,7),(0,8),(1,8),(2,8),(3,8),(4,8),(0,9)])
 (.seq
 (.reg [] [oo 45 (.ld true 8 (ot 2)),
 oo 46 (.mov (ot 7)),
 oo 47 (.calli 56 [(ot 45),(ot 46)]),
 oo 48 (.s2a 32 (ot 47)),
 oo 49 (.ld true 32 (ot 48)),
 ⟨none,.st 32 (ot 4) (ot 49),none⟩,
 oo 5 (.mov (.cst (.d (.int .i64 0))))])
 .ret)))))))))⟩
def tx22:AFun:=⟨85,46,[.tmp 4,.tmp 5,.tmp 6],
 (.seq
 (.reg [0] [oo 2 (.cbx 0 8 (ot 0)),
 oo 4 (.mov (.cst (.nils 19))),
 oo 5 (.mov (.cst (.nils 2))),
 oo 6 (.mov (.cst (.d (.int .i64 0))))])
 (.seq
 (.seq
 (.reg [] [oo 13 (.mov (ot 1)),
 oo 14 (.len (ot 13)),
 oo 15 (.cmp .gtr (ot 14) (.cst (.d (.int .i64 16384))))])
 (.cond (ot 15)
 (.seq
 (.reg [] [oo 4 (.mov (.cst (.nils 19))),
 oo 5 (.mov (.cst (.nils 2))),
 oo 6 (.mov (.cst (.d (.int .i64 26))))])
 .ret)
 .skip))
 (.seq
 (.reg [] [oo 7 (.mov (.cst (.nils 19)))])
 (.seq
 (.reg [] [oo 8 (.mov (.cst (.nils 2)))])
 (.seq
 (.seq
 (.reg [] [oo 9 (.mov (.cst (.d (.int .i64 0))))])
 (.post [7,8] [0,1,2,3,4,5]
 (.block 0
 (.asrow 5 67 2 8
 (.asrow 3 84 19 7
 (.keep [1,2,7,8,9] [0]
 (.loop
 (.post [1,2,7,8,9] [1,2,3,4,5]
 (.seq
 (.seq
 (.reg [] [oo 16 (.mov (ot 9)),
 oo 17 (.mov (ot 1)),
 oo 18 (.len (ot 17)),
 oo 19 (.cmp .lss (ot 16) (ot 18))])
 (.cond (ot 19)
 .skip
 (.exit 0)))
 (.block 1
 (.seq
 (.seq
 (.reg [] [oo 20 (.mov (ot 1)),
 oo 21 (.len (ot 20)),
 oo 22 (.mov (ot 9)),
 oo 23 (.arith .sub .i64 (ot 21) (ot 22)),
 oo 24 (.cmp .geq (ot 23) (.cst (.d (.int .i64 32))))])
 (.cond (ot 24)
 (.seq
 (.regd [1] [oo 26 (.ld true 8 (ot 2)),
 oo 27 (.mov (ot 1)),
 oo 28 (.mov (ot 9)),
 oo 29 (.mov (ot 9)),
 oo 30 (.arith .add .i64 (ot 29) (.cst (.d (.int .i64 32)))),
 oo 31 (.slc 1 (ot 27) (some (ot 28)) (some (ot 30))),
 oo 32 (.s2a 32 (ot 31)),
 oo 33 (.ld true 32 (ot 32)),
 oo 34 (.call 57 [(ot 26),(ot 33)]),
 oo 25 (.mov (ot 34)),
 oo 35 (.ext 0 (ot 25)),
 oo 36 (.ext 1 (ot 25)),
 oo 10 (.alloc 1 [(.d (.int .i64 0)),(.d (.int .i64 0)),(.d (.int .i64 0)),(.d (.int .u8 0)),(.d (.int .u8 0)),(.d (.int .u8 0)),(.d (.int .u8 0)),(.d (.int .u8 0)),(.d (.int .u8 0)),(.d (.int .u8 0)),(.d (.int .u8 0)),(.d (.int .u8 0)),(.d (.int .u8 0)),(.d (.int .u8 0)),(.d (.int .u8 0)),(.d (.int .u8 0)),(.d (.int .u8 0)),(.d (.int .u8 0)),(.d (.int .u8 0))]),
 ⟨none,.st 19 (ot 10) (ot 35),none⟩,
 oo 11 (.mov (ot 36))] [(0,1),(0,2),(1,2),(0,3),(1,3),(2,3),(0,4),(1,4),(2,4),(0,5),(0,6),(0,7),(10,11),(0,12),(1,12),(2,12),(3,12),(4,12),(5,12),(6,12),(7,12),(8,12),(9,12),(10,12),(11,12),(11,13)])
 (.seq
 (.reg [] [oo 37 (.mov (ot 11)),
 oo 38 (.cmp .eql (ot 37) (.cst (.d (.int .i64 0))))])
 (.cond (ot 38)
 (.seq
 (.reg [2,3] [oo 39 (.mov (ot 7)),
 oo 40 (.ld true 19 (ot 10)),
 oo 41 (.bsl 2 84 19 1 [(.agg [(.int .i64 0),(.int .i64 0),(.int .i64 0),(.int .u8 0),(.int .u8 0),(.int .u8 0),(.int .u8 0),(.int .u8 0),(.int .u8 0),(.int .u8 0),(.int .u8 0),(.int .u8 0),(.int .u8 0),(.int .u8 0),(.int .u8 0),(.int .u8 0),(.int .u8 0),(.int .u8 0),(.int .u8 0)])] [(0,(ot 40))]),
 oo 42 (.app 3 84 19 40 (ot 39) (ot 41)),
 oo 7 (.mov (ot 42))])
 (.seq
 (.reg [] [oo 43 (.mov (ot 9)),
 oo 44 (.arith .add .i64 (ot 43) (.cst (.d (.int .i64 32)))),
 oo 9 (.mov (ot 44))])
 (.exit 1)))
 .skip)))
 .skip))
 (.seq
 (.seq
 (.reg [] [oo 45 (.mov (ot 8)),
 oo 46 (.len (ot 45)),
 oo 12 (.mov (ot 46))])
 (.seq
 (.regd [] [oo 47 (.mov (ot 12)),
 oo 48 (.cmp .gtr (ot 47) (.cst (.d (.int .i64 0)))),
 oo 49 (.mov (ot 48)),
 ⟨some 50,.mov (ot 8),some (49,true)⟩,
 ⟨some 51,.mov (ot 12),some (49,true)⟩,
 ⟨some 52,.arith .sub .i64 (ot 51) (.cst (.d (.int .i64 1))),some (49,true)⟩,
 ⟨some 53,.ixa 2 (ot 50) (ot 52),some (49,true)⟩,
 ⟨some 54,.ld true 2 (ot 53),some (49,true)⟩,
 ⟨some 55,.mov (ot 8),some (49,true)⟩,
 ⟨some 56,.mov (ot 12),some (49,true)⟩,
 ⟨some 57,.arith .sub .i64 (ot 56) (.cst (.d (.int .i64 1))),some (49,true)⟩,
 ⟨some 58,.ixa 2 (ot 55) (ot 57),some (49,true)⟩,
 ⟨some 59,.fad 0 (ot 58),some (49,true)⟩,
 ⟨some 60,.ld false 1 (ot 59),some (49,true)⟩,
 ⟨some 61,.mov (ot 9),some (49,true)⟩,
 ⟨some 62,.build [(.d (.int .i64 0)),(.d (.int .i64 0))] [(0,1,(ot 60)),(1,1,(ot 61))],some (49,true)⟩,
 ⟨some 63,.aeq false [0,0] (ot 54) (ot 62),some (49,true)⟩,
 oo 64 (.pick (ot 49) (ot 63) (.cst (.d (.bool false))))] [(3,4),(3,5),(3,8),(4,8),(5,8),(6,8),(7,8),(3,9),(4,9),(5,9),(6,9),(7,9),(8,9),(3,10),(4,10),(5,10),(6,10),(7,10),(8,10),(3,11),(4,11),(5,11),(6,11),(7,11),(3,12),(4,12),(5,12),(6,12),(7,12),(3,13),(4,13),(5,13),(6,13),(7,13),(3,14),(4,14),(5,14),(6,14),(7,14),(8,14),(9,14),(10,14),(11,14),(12,14),(13,14),(3,15),(4,15),(5,15),(6,15),(7,15)])
 (.cond (ot 64)
 (.reg [] [oo 65 (.mov (ot 8)),
 oo 66 (.mov (ot 12)),
 oo 67 (.arith .sub .i64 (ot 66) (.cst (.d (.int .i64 1)))),
 oo 68 (.ixa 2 (ot 65) (ot 67)),
 oo 69 (.fad 1 (ot 68)),
 oo 70 (.ld false 1 (ot 69)),
 oo 71 (.arith .add .i64 (ot 70) (.cst (.d (.int .i64 1)))),
 oo 72 (.ixa 2 (ot 65) (ot 67)),
 oo 73 (.fad 1 (ot 72)),
 ⟨none,.st 1 (ot 73) (ot 71),none⟩])
 (.reg [4,5] [oo 74 (.mov (ot 8)),
 oo 75 (.mov (ot 9)),
 oo 76 (.mov (ot 9)),
 oo 77 (.arith .add .i64 (ot 76) (.cst (.d (.int .i64 1)))),
 oo 78 (.build [(.d (.int .i64 0)),(.d (.int .i64 0))] [(0,1,(ot 75)),(1,1,(ot 77))]),
 oo 79 (.bsl 4 67 2 1 [(.agg [(.int .i64 0),(.int .i64 0)])] [(0,(ot 78))]),
 oo 80 (.app 5 67 2 16 (ot 74) (ot 79)),
 oo 8 (.mov (ot 80))]))))
 (.reg [] [oo 81 (.mov (ot 9)),
 oo 82 (.arith .add .i64 (ot 81) (.cst (.d (.int .i64 1)))),
 oo 9 (.mov (ot 82))])))))))))))))
 (.seq
 (.reg [] [oo 83 (.mov (ot 7)),
 oo 84 (.mov (ot 8)),
 oo 4 (.mov (ot 83)),
 oo 5 (.mov (ot 84)),
 oo 6 (.mov (.cst (.d (.int .i64 0))))])
 .ret))))))⟩
def tx23:AFun:=⟨25,43,[.cell 2 10 true,.tmp 3],
 (.seq
 (.reg [0,1] [oo 1 (.cbx 0 16 (ot 0)),
 oo 2 (.alloc 1 [(.d (.int .i64 0)),(.d (.int .i64 0)),(.d (.int .u8 0)),(.d (.int .u8 0)),(.d (.int .u8 0)),(.d (.int .u8 0)),(.d (.int .u8 0)),(.d (.int .u8 0)),(.d (.int .u8 0)),(.d (.int .u8 0))]),
 oo 3 (.mov (.cst (.d (.int .i64 0))))])
 (.seq
 (.regd [2] [oo 6 (.sla 16 (ot 1) none (some (.cst (.d (.int .i64 4))))),
 oo 7 (.s2a 4 (ot 6)),
 oo 8 (.ld true 4 (ot 7)),
 oo 9 (.call 58 [(ot 8)]),
 oo 10 (.sla 16 (ot 1) (some (.cst (.d (.int .i64 4)))) (some (.cst (.d (.int .i64 8))))),
 oo 11 (.s2a 4 (ot 10)),
 oo 12 (.ld true 4 (ot 11)),
 oo 13 (.call 58 [(ot 12)]),
 oo 14 (.sla 16 (ot 1) (some (.cst (.d (.int .i64 8)))) none),
 oo 15 (.s2a 8 (ot 14)),
 oo 16 (.ld true 8 (ot 15)),
 oo 17 (.build [(.d (.int .i64 0)),(.d (.int .i64 0)),(.d (.int .u8 0)),(.d (.int .u8 0)),(.d (.int .u8 0)),(.d (.int .u8 0)),(.d (.int .u8 0)),(.d (.int .u8 0)),(.d (.int .u8 0)),(.d (.int .u8 0))] [(0,1,(ot 9)),(1,1,(ot 13)),(2,8,(ot 16))]),
 oo 4 (.alloc 2 [(.d (.int .i64 0)),(.d (.int .i64 0)),(.d (.int .u8 0)),(.d (.int .u8 0)),(.d (.int .u8 0)),(.d (.int .u8 0)),(.d (.int .u8 0)),(.d (.int .u8 0)),(.d (.int .u8 0)),(.d (.int .u8 0))]),
 ⟨none,.st 10 (ot 4) (ot 17),none⟩] [(0,4),(1,4),(2,4),(3,4),(0,5),(1,5),(2,5),(3,5),(0,6),(1,6),(2,6),(3,6),(0,8),(1,8),(2,8),(3,8),(4,8),(5,8),(6,8),(7,8),(0,9),(1,9),(2,9),(3,9),(4,9),(5,9),(6,9),(7,9),(0,10),(1,10),(2,10),(3,10),(4,10),(5,10),(6,10),(7,10),(0,12),(1,12),(2,12),(3,12),(4,12),(5,12),(6,12),(7,12),(8,12),(9,12),(10,12),(11,12)])
 (.seq
 (.seq
 (.reg [] [oo 18 (.ld true 10 (ot 4)),
 oo 19 (.call 51 [(ot 18)]),
 oo 5 (.mov (ot 19))])
 (.seq
 (.reg [] [oo 20 (.mov (ot 5)),
 oo 21 (.cmp .neq (ot 20) (.cst (.d (.int .i64 0))))])
 (.cond (ot 21)
 (.seq
 (.reg [] [oo 22 (.build [(.d (.int .i64 0)),(.d (.int .i64 0)),(.d (.int .u8 0)),(.d (.int .u8 0)),(.d (.int .u8 0)),(.d (.int .u8 0)),(.d (.int .u8 0)),(.d (.int .u8 0)),(.d (.int .u8 0)),(.d (.int .u8 0))] []),
 oo 23 (.mov (ot 5)),
 ⟨none,.st 10 (ot 2) (ot 22),none⟩,
 oo 3 (.mov (ot 23))])
 .ret)
 .skip)))
 (.seq
 (.reg [] [oo 24 (.ld true 10 (ot 4)),
 ⟨none,.st 10 (ot 2) (ot 24),none⟩,
 oo 3 (.mov (.cst (.d (.int .i64 0))))])
 .ret))))⟩
def tx24:AFun:=⟨62,48,[.cell 4 22 true,.tmp 5,.tmp 6],
 (.seq
 (.reg [0,1] [oo 2 (.cbx 0 22 (ot 0)),
 oo 4 (.alloc 1 [(.d (.int .i64 0)),(.d (.int .i64 0)),(.d (.int .i64 0)),(.d (.int .i64 0)),(.d (.int .u8 0)),(.d (.int .u8 0)),(.d (.int .u8 0)),(.d (.int .u8 0)),(.d (.int .u8 0)),(.d (.int .u8 0)),(.d (.int .u8 0)),(.d (.int .u8 0)),(.d (.int .u8 0)),(.d (.int .u8 0)),(.d (.int .u8 0)),(.d (.int .u8 0)),(.d (.int .u8 0)),(.d (.int .u8 0)),(.d (.int .u8 0)),(.d (.int .u8 0)),(.d (.bool false)),(.nils 1)]),
 oo 5 (.mov (.cst (.nils 1))),
 oo 6 (.mov (.cst (.d (.int .i64 0))))])
 (.seq
 (.seq
 (.reg [2] [oo 15 (.ld true 22 (ot 2)),
 oo 16 (.call 59 [(ot 15)]),
 oo 17 (.mov (ot 1)),
 oo 18 (.len (ot 17)),
 oo 19 (.cmp .gtr (ot 18) (.cst (.d (.int .i64 256)))),
 oo 20 (.call 37 [(ot 19),(.cst (.d (.int .i64 5)))]),
 oo 21 (.bsl 2 43 1 2 [(.int .i64 0),(.int .i64 0)] [(0,(ot 16)),(1,(ot 20))]),
 oo 22 (.call 33 [(ot 21)]),
 oo 7 (.mov (ot 22))])
 (.seq
 (.reg [] [oo 23 (.mov (ot 7)),
 oo 24 (.cmp .neq (ot 23) (.cst (.d (.int .i64 0))))])
 (.cond (ot 24)
 (.seq
 (.reg [] [oo 25 (.build [(.d (.int .i64 0)),(.d (.int .i64 0)),(.d (.int .i64 0)),(.d (.int .i64 0)),(.d (.int .u8 0)),(.d (.int .u8 0)),(.d (.int .u8 0)),(.d (.int .u8 0)),(.d (.int .u8 0)),(.d (.int .u8 0)),(.d (.int .u8 0)),(.d (.int .u8 0)),(.d (.int .u8 0)),(.d (.int .u8 0)),(.d (.int .u8 0)),(.d (.int .u8 0)),(.d (.int .u8 0)),(.d (.int .u8 0)),(.d (.int .u8 0)),(.d (.int .u8 0)),(.d (.bool false)),(.nils 1)] []),
 oo 26 (.mov (ot 7)),
 ⟨none,.st 22 (ot 4) (ot 25),none⟩,
 oo 5 (.mov (.cst (.nils 1))),
 oo 6 (.mov (ot 26))])
 .ret)
 .skip)))
 (.seq
 (.seq
 (.reg [] [oo 27 (.mov (ot 1)),
 oo 28 (.call 60 [(ot 27),(.cst (.d (.fn (.func 51) [])))]),
 oo 29 (.call 33 [(ot 28)]),
 oo 8 (.mov (ot 29))])
 (.seq
 (.reg [] [oo 30 (.mov (ot 8)),
 oo 31 (.cmp .neq (ot 30) (.cst (.d (.int .i64 0))))])
 (.cond (ot 31)
 (.seq
 (.reg [] [oo 32 (.build [(.d (.int .i64 0)),(.d (.int .i64 0)),(.d (.int .i64 0)),(.d (.int .i64 0)),(.d (.int .u8 0)),(.d (.int .u8 0)),(.d (.int .u8 0)),(.d (.int .u8 0)),(.d (.int .u8 0)),(.d (.int .u8 0)),(.d (.int .u8 0)),(.d (.int .u8 0)),(.d (.int .u8 0)),(.d (.int .u8 0)),(.d (.int .u8 0)),(.d (.int .u8 0)),(.d (.int .u8 0)),(.d (.int .u8 0)),(.d (.int .u8 0)),(.d (.int .u8 0)),(.d (.bool false)),(.nils 1)] []),
 oo 33 (.mov (ot 8)),
 ⟨none,.st 22 (ot 4) (ot 32),none⟩,
 oo 5 (.mov (.cst (.nils 1))),
 oo 6 (.mov (ot 33))])
 .ret)
 .skip)))
 (.seq
 (.reg [3] [oo 34 (.ld true 22 (ot 2)),
 oo 35 (.call 61 [(ot 34)]),
 oo 9 (.alloc 3 [(.d (.int .i64 0)),(.d (.int .i64 0)),(.d (.int .i64 0)),(.d (.int .i64 0)),(.d (.int .u8 0)),(.d (.int .u8 0)),(.d (.int .u8 0)),(.d (.int .u8 0)),(.d (.int .u8 0)),(.d (.int .u8 0)),(.d (.int .u8 0)),(.d (.int .u8 0)),(.d (.int .u8 0)),(.d (.int .u8 0)),(.d (.int .u8 0)),(.d (.int .u8 0)),(.d (.int .u8 0)),(.d (.int .u8 0)),(.d (.int .u8 0)),(.d (.int .u8 0)),(.d (.bool false)),(.nils 1)]),
 ⟨none,.st 22 (ot 9) (ot 35),none⟩])
 (.seq
 (.reg [] [oo 10 (.mov (.cst (.nils 11)))])
 (.seq
 (.seq
 (.reg [] [oo 36 (.mov (ot 1)),
 oo 37 (.len (ot 36)),
 oo 38 (.mov (.cst (.d (.int .i64 0))))])
 (.post [4,9,10] [0,1,2,3,4,5,6,7]
 (.block 0
 (.asrow 7 153 11 10
 (.keep [4,9,10,36,37,38] [0,1,2,3]
 (.loop
 (.post [4,9,10,36,37,38] [4,5,6,7]
 (.seq
 (.reg [] [oo 39 (.cmp .lss (ot 38) (ot 37))])
 (.seq
 (.cond (ot 39)
 .skip
 (.exit 0))
 (.seq
 (.block 1
 (.seq
 (.reg [4] [oo 40 (.mov (ot 38)),
 oo 41 (.ixa 10 (ot 36) (ot 38)),
 oo 42 (.ld true 10 (ot 41)),
 oo 12 (.alloc 4 [(.d (.int .i64 0)),(.d (.int .i64 0)),(.d (.int .u8 0)),(.d (.int .u8 0)),(.d (.int .u8 0)),(.d (.int .u8 0)),(.d (.int .u8 0)),(.d (.int .u8 0)),(.d (.int .u8 0)),(.d (.int .u8 0))]),
 oo 11 (.mov (ot 40)),
 ⟨none,.st 10 (ot 12) (ot 42),none⟩])
 (.seq
 (.reg [5] [oo 44 (.ld true 22 (ot 9)),
 oo 45 (.ld true 10 (ot 12)),
 oo 46 (.call 62 [(ot 44),(ot 45)]),
 oo 43 (.mov (ot 46)),
 oo 47 (.ext 0 (ot 43)),
 oo 48 (.ext 1 (ot 43)),
 oo 13 (.alloc 5 [(.d (.int .i64 0)),(.d (.int .i64 0)),(.d (.int .i64 0)),(.d (.int .i64 0)),(.d (.int .u8 0)),(.d (.int .u8 0)),(.d (.int .u8 0)),(.d (.int .u8 0)),(.d (.int .u8 0)),(.d (.int .u8 0)),(.d (.int .u8 0)),(.d (.int .u8 0)),(.d (.int .u8 0)),(.d (.int .u8 0)),(.d (.int .u8 0)),(.d (.int .u8 0)),(.d (.int .u8 0)),(.d (.int .u8 0)),(.d (.int .u8 0)),(.d (.int .u8 0)),(.d (.bool false)),(.nils 1)]),
 ⟨none,.st 22 (ot 13) (ot 47),none⟩,
 oo 14 (.mov (ot 48))])
 (.seq
 (.reg [] [oo 49 (.mov (ot 14)),
 oo 50 (.cmp .eql (ot 49) (.cst (.d (.int .i64 0))))])
 (.cond (ot 50)
 (.regd [6,7] [oo 51 (.ld true 22 (ot 13)),
 oo 52 (.mov (ot 10)),
 oo 53 (.ld true 10 (ot 12)),
 oo 54 (.mov (ot 11)),
 oo 55 (.build [(.d (.int .i64 0)),(.d (.int .i64 0)),(.d (.int .u8 0)),(.d (.int .u8 0)),(.d (.int .u8 0)),(.d (.int .u8 0)),(.d (.int .u8 0)),(.d (.int .u8 0)),(.d (.int .u8 0)),(.d (.int .u8 0)),(.d (.int .i64 0))] [(0,10,(ot 53)),(10,1,(ot 54))]),
 oo 56 (.bsl 6 153 11 1 [(.agg [(.int .i64 0),(.int .i64 0),(.int .u8 0),(.int .u8 0),(.int .u8 0),(.int .u8 0),(.int .u8 0),(.int .u8 0),(.int .u8 0),(.int .u8 0),(.int .i64 0)])] [(0,(ot 55))]),
 oo 57 (.app 7 153 11 32 (ot 52) (ot 56)),
 ⟨none,.st 22 (ot 9) (ot 51),none⟩,
 oo 10 (.mov (ot 57))] [(0,1),(0,2),(1,2),(0,3),(1,3),(2,3),(0,4),(1,4),(0,5),(1,5),(0,6)])
 .skip)))))
 (.reg [] [oo 58 (.arith .add .i64 (ot 38) (.cst (.d (.int .i64 1)))),
 oo 38 (.mov (ot 58))])))))))))))
 (.seq
 (.regd [] [oo 59 (.ld true 22 (ot 9)),
 oo 60 (.mov (ot 10)),
 oo 61 (.calli 63 [(ot 60),(.cst (.d (.fn (.func 64) [])))]),
 ⟨none,.st 22 (ot 4) (ot 59),none⟩,
 oo 5 (.mov (ot 61)),
 oo 6 (.mov (.cst (.d (.int .i64 0))))] [(0,1),(0,2)])
 .ret)))))))⟩
def tx25:AFun:=⟨26,40,[.tmp 4],
 (.seq
 (.reg [] [oo 4 (.mov (.cst (.d (.bool false))))])
 (.seq
 (.seq
 (.reg [] [oo 6 (.mov (ot 0)),
 oo 7 (.len (ot 6)),
 oo 8 (.mov (ot 1)),
 oo 9 (.len (ot 8)),
 oo 10 (.cmp .neq (ot 7) (ot 9))])
 (.cond (ot 10)
 (.seq
 (.reg [] [oo 4 (.mov (.cst (.d (.bool false))))])
 .ret)
 .skip))
 (.seq
 (.seq
 (.reg [] [oo 5 (.mov (.cst (.d (.int .i64 0))))])
 (.post [] []
 (.block 0
 (.keep [0,1,5] []
 (.loop
 (.post [0,1,5] []
 (.seq
 (.seq
 (.reg [] [oo 11 (.mov (ot 5)),
 oo 12 (.mov (ot 0)),
 oo 13 (.len (ot 12)),
 oo 14 (.cmp .lss (ot 11) (ot 13))])
 (.cond (ot 14)
 .skip
 (.exit 0)))
 (.seq
 (.block 1
 (.seq
 (.regd [] [oo 17 (.mov (ot 0)),
 oo 18 (.mov (ot 5)),
 oo 19 (.ixa 1 (ot 17) (ot 18)),
 oo 20 (.ld false 1 (ot 19)),
 oo 21 (.mov (ot 1)),
 oo 22 (.mov (ot 5)),
 oo 23 (.ixa 1 (ot 21) (ot 22)),
 oo 24 (.ld false 1 (ot 23)),
 oo 25 (.cmp .neq (ot 20) (ot 24))] [(0,1),(0,4),(1,4),(2,4),(3,4),(0,5),(1,5),(2,5),(3,5),(4,5),(0,6),(1,6),(2,6),(3,6),(0,7),(1,7),(2,7),(3,7)])
 (.cond (ot 25)
 (.seq
 (.reg [] [oo 4 (.mov (.cst (.d (.bool false))))])
 .ret)
 .skip)))
 (.reg [] [oo 15 (.mov (ot 5)),
 oo 16 (.arith .add .i64 (ot 15) (.cst (.d (.int .i64 1)))),
 oo 5 (.mov (ot 16))])))))))))
 (.seq
 (.reg [] [oo 4 (.mov (.cst (.d (.bool true))))])
 .ret))))⟩
def tx33:AFun:=⟨15,40,[.tmp 2],
 (.seq
 (.reg [] [oo 2 (.mov (.cst (.d (.int .i64 0))))])
 (.seq
 (.seq
 (.reg [] [oo 5 (.mov (ot 0)),
 oo 6 (.len (ot 5)),
 oo 7 (.mov (.cst (.d (.int .i64 0))))])
 (.post [] []
 (.block 0
 (.keep [5,6,7] []
 (.loop
 (.post [5,6,7] []
 (.seq
 (.reg [] [oo 8 (.cmp .lss (ot 7) (ot 6))])
 (.seq
 (.cond (ot 8)
 .skip
 (.exit 0))
 (.seq
 (.block 1
 (.seq
 (.reg [] [oo 9 (.ixa 1 (ot 5) (ot 7)),
 oo 10 (.ld false 1 (ot 9)),
 oo 4 (.mov (ot 10))])
 (.seq
 (.reg [] [oo 11 (.mov (ot 4)),
 oo 12 (.cmp .neq (ot 11) (.cst (.d (.int .i64 0))))])
 (.cond (ot 12)
 (.seq
 (.reg [] [oo 13 (.mov (ot 4)),
 oo 2 (.mov (ot 13))])
 .ret)
 .skip))))
 (.reg [] [oo 14 (.arith .add .i64 (ot 7) (.cst (.d (.int .i64 1)))),
 oo 7 (.mov (ot 14))]))))))))))
 (.seq
 (.reg [] [oo 2 (.mov (.cst (.d (.int .i64 0))))])
 .ret)))⟩
def tx37:AFun:=⟨7,40,[.tmp 4],
 (.seq
 (.reg [] [oo 4 (.mov (.cst (.d (.int .i64 0))))])
 (.seq
 (.seq
 (.reg [] [oo 5 (.mov (ot 0))])
 (.cond (ot 5)
 (.seq
 (.reg [] [oo 6 (.mov (ot 1)),
 oo 4 (.mov (ot 6))])
 .ret)
 .skip))
 (.seq
 (.reg [] [oo 4 (.mov (.cst (.d (.int .i64 0))))])
 .ret)))⟩
def tx51:AFun:=⟨11,42,[.tmp 2],
 (.seq
 (.reg [0] [oo 1 (.cbx 0 10 (ot 0)),
 oo 2 (.mov (.cst (.d (.int .i64 0))))])
 (.seq
 (.regd [1] [oo 3 (.fad 0 (ot 1)),
 oo 4 (.ld false 1 (ot 3)),
 oo 5 (.call 73 [(ot 4),(.cst (.d (.int .i64 1))),(.cst (.d (.int .i64 999999999)))]),
 oo 6 (.fad 1 (ot 1)),
 oo 7 (.ld false 1 (ot 6)),
 oo 8 (.call 73 [(ot 7),(.cst (.d (.int .i64 1))),(.cst (.d (.int .i64 100000000)))]),
 oo 9 (.bsl 1 43 1 2 [(.int .i64 0),(.int .i64 0)] [(0,(ot 5)),(1,(ot 8))]),
 oo 10 (.call 33 [(ot 9)]),
 oo 2 (.mov (ot 10))] [(0,3),(1,3),(2,3),(0,4),(1,4),(2,4)])
 .ret))⟩
def tx52:AFun:=⟨14,43,[.cell 4 10 true],
 (.seq
 (.reg [0,1,2] [oo 2 (.box 0 10 (ot 0)),
 oo 3 (.cbx 1 8 (ot 1)),
 oo 4 (.alloc 2 [(.d (.int .i64 0)),(.d (.int .i64 0)),(.d (.int .u8 0)),(.d (.int .u8 0)),(.d (.int .u8 0)),(.d (.int .u8 0)),(.d (.int .u8 0)),(.d (.int .u8 0)),(.d (.int .u8 0)),(.d (.int .u8 0))])])
 (.seq
 (.regd [] [oo 6 (.ld true 8 (ot 3)),
 oo 7 (.ld true 10 (ot 2)),
 oo 8 (.call 53 [(ot 7)]),
 oo 9 (.call 82 [(ot 6),(ot 8)]),
 oo 5 (.mov (ot 9)),
 oo 10 (.ext 0 (ot 5)),
 oo 11 (.ext 1 (ot 5)),
 oo 12 (.fad 2 (ot 2)),
 ⟨none,.st 8 (ot 12) (ot 10),none⟩] [(0,1),(0,2),(5,6),(6,7),(6,8)])
 (.seq
 (.reg [] [oo 13 (.ld true 10 (ot 2)),
 ⟨none,.st 10 (ot 4) (ot 13),none⟩])
 .ret)))⟩
def tx53:AFun:=⟨14,44,[.tmp 2],
 (.seq
 (.reg [0] [oo 1 (.cbx 0 10 (ot 0)),
 oo 2 (.mov (.cst (.nils 1)))])
 (.seq
 (.regd [1,2] [oo 5 (.fad 0 (ot 1)),
 oo 6 (.ld false 1 (ot 5)),
 oo 7 (.call 83 [(ot 6)]),
 oo 8 (.fad 1 (ot 1)),
 oo 9 (.ld false 1 (ot 8)),
 oo 10 (.call 83 [(ot 9)]),
 oo 3 (.alloc 1 [(.d (.int .u8 0)),(.d (.int .u8 0)),(.d (.int .u8 0)),(.d (.int .u8 0))]),
 oo 4 (.alloc 2 [(.d (.int .u8 0)),(.d (.int .u8 0)),(.d (.int .u8 0)),(.d (.int .u8 0))]),
 ⟨none,.st 4 (ot 3) (ot 7),none⟩,
 ⟨none,.st 4 (ot 4) (ot 10),none⟩] [(0,3),(1,3),(2,3),(0,4),(1,4),(2,4),(0,6),(1,6),(2,6),(3,6),(4,6),(5,6),(0,7),(1,7),(2,7),(3,7),(4,7),(5,7),(6,7)])
 (.seq
 (.regd [3] [oo 11 (.sla 4 (ot 3) none none),
 oo 12 (.sla 4 (ot 4) none none),
 oo 13 (.app 3 5 1 1 (ot 11) (ot 12)),
 oo 2 (.mov (ot 13))] [(0,1)])
 .ret)))⟩
def tx54:AFun:=⟨14,42,[.tmp 2],
 (.seq
 (.reg [0] [oo 1 (.cbx 0 19 (ot 0)),
 oo 2 (.mov (.cst (.d (.int .i64 0))))])
 (.seq
 (.regd [1] [oo 3 (.fad 0 (ot 1)),
 oo 4 (.ld false 1 (ot 3)),
 oo 5 (.call 85 [(ot 4),(.cst (.d (.int .i64 0))),(.cst (.d (.int .i64 65535)))]),
 oo 6 (.fad 1 (ot 1)),
 oo 7 (.ld false 1 (ot 6)),
 oo 8 (.call 85 [(ot 7),(.cst (.d (.int .i64 0))),(.cst (.d (.int .i64 65535)))]),
 oo 9 (.fad 2 (ot 1)),
 oo 10 (.ld false 1 (ot 9)),
 oo 11 (.call 85 [(ot 10),(.cst (.d (.int .i64 0))),(.cst (.d (.int .i64 255)))]),
 oo 12 (.bsl 1 43 1 3 [(.int .i64 0),(.int .i64 0),(.int .i64 0)] [(0,(ot 5)),(1,(ot 8)),(2,(ot 11))]),
 oo 13 (.call 84 [(ot 12)]),
 oo 2 (.mov (ot 13))] [(0,3),(1,3),(2,3),(0,4),(1,4),(2,4),(0,6),(1,6),(2,6),(3,6),(4,6),(5,6),(0,7),(1,7),(2,7),(3,7),(4,7),(5,7)])
 .ret))⟩
def tx55:AFun:=⟨26,41,[.tmp 4],
 (.seq
 (.reg [] [oo 4 (.mov (.cst (.nils 1)))])
 (.seq
 (.reg [0] [oo 7 (.mov (ot 1)),
 oo 8 (.msl 0 5 1 1 (.int .u8 0) (ot 7)),
 oo 5 (.mov (ot 8))])
 (.seq
 (.seq
 (.reg [] [oo 9 (.mov (ot 1)),
 oo 10 (.mov (.cst (.d (.int .i64 0))))])
 (.post [5] [0]
 (.block 0
 (.keep [0,1,5,9,10] [0]
 (.loop
 (.post [0,1,5,9,10] []
 (.seq
 (.reg [] [oo 11 (.cmp .lss (ot 10) (ot 9))])
 (.seq
 (.cond (ot 11)
 .skip
 (.exit 0))
 (.seq
 (.block 1
 (.seq
 (.reg [] [oo 12 (.mov (ot 10)),
 oo 6 (.mov (ot 12))])
 (.reg [] [oo 13 (.mov (ot 5)),
 oo 14 (.mov (ot 1)),
 oo 15 (.arith .sub .i64 (ot 14) (.cst (.d (.int .i64 1)))),
 oo 16 (.mov (ot 6)),
 oo 17 (.arith .sub .i64 (ot 15) (ot 16)),
 oo 18 (.mov (ot 0)),
 oo 19 (.mov (ot 6)),
 oo 20 (.arith .mul .i64 (.cst (.d (.int .i64 8))) (ot 19)),
 oo 21 (.shf .shr .i64 (ot 18) (ot 20)),
 oo 22 (.conv .u8 (ot 21)),
 oo 23 (.ixa 1 (ot 13) (ot 17)),
 ⟨none,.st 1 (ot 23) (ot 22),none⟩])))
 (.reg [] [oo 24 (.arith .add .i64 (ot 10) (.cst (.d (.int .i64 1)))),
 oo 10 (.mov (ot 24))]))))))))))
 (.seq
 (.reg [] [oo 25 (.mov (ot 5)),
 oo 4 (.mov (ot 25))])
 .ret))))⟩
def tx56:AFun:=⟨12,43,[.tmp 4],
 (.seq
 (.reg [0] [oo 2 (.cbx 0 8 (ot 0)),
 oo 4 (.mov (.cst (.nils 1)))])
 (.seq
 (.reg [1] [oo 6 (.ld true 8 (ot 2)),
 oo 7 (.mov (ot 1)),
 oo 8 (.call 86 [(ot 6),(ot 7)]),
 oo 5 (.alloc 1 [(.d (.int .u8 0)),(.d (.int .u8 0)),(.d (.int .u8 0)),(.d (.int .u8 0)),(.d (.int .u8 0)),(.d (.int .u8 0)),(.d (.int .u8 0)),(.d (.int .u8 0))]),
 ⟨none,.st 8 (ot 5) (ot 8),none⟩])
 (.seq
 (.reg [2] [oo 9 (.mov (ot 1)),
 oo 10 (.sla 8 (ot 5) none none),
 oo 11 (.app 2 5 1 1 (ot 9) (ot 10)),
 oo 4 (.mov (ot 11))])
 .ret)))⟩
def tx57:AFun:=⟨52,44,[.cell 4 19 true,.tmp 5],
 (.seq
 (.reg [0,1,2] [oo 2 (.cbx 0 8 (ot 0)),
 oo 3 (.cbx 1 32 (ot 1)),
 oo 4 (.alloc 2 [(.d (.int .i64 0)),(.d (.int .i64 0)),(.d (.int .i64 0)),(.d (.int .u8 0)),(.d (.int .u8 0)),(.d (.int .u8 0)),(.d (.int .u8 0)),(.d (.int .u8 0)),(.d (.int .u8 0)),(.d (.int .u8 0)),(.d (.int .u8 0)),(.d (.int .u8 0)),(.d (.int .u8 0)),(.d (.int .u8 0)),(.d (.int .u8 0)),(.d (.int .u8 0)),(.d (.int .u8 0)),(.d (.int .u8 0)),(.d (.int .u8 0))]),
 oo 5 (.mov (.cst (.d (.int .i64 0))))])
 (.seq
 (.reg [] [oo 8 (.ixp 32 1 (ot 3) (.cst (.d (.int .i64 22)))),
 oo 9 (.ld false 1 (ot 8)),
 oo 10 (.ixp 32 1 (ot 3) (.cst (.d (.int .i64 1)))),
 oo 11 (.ld false 1 (ot 10)),
 oo 12 (.arith .sub .u8 (.cst (.d (.int .u8 255))) (ot 11)),
 oo 13 (.cmp .eql (ot 9) (ot 12)),
 oo 14 (.mov (ot 13)),
 ⟨some 15,.ixp 32 1 (ot 3) (.cst (.d (.int .i64 23))),some (14,true)⟩,
 ⟨some 16,.ld false 1 (ot 15),some (14,true)⟩,
 ⟨some 17,.ixp 32 1 (ot 3) (.cst (.d (.int .i64 2))),some (14,true)⟩,
 ⟨some 18,.ld false 1 (ot 17),some (14,true)⟩,
 ⟨some 19,.arith .sub .u8 (.cst (.d (.int .u8 255))) (ot 18),some (14,true)⟩,
 ⟨some 20,.cmp .eql (ot 16) (ot 19),some (14,true)⟩,
 oo 21 (.pick (ot 14) (ot 20) (.cst (.d (.bool false)))),
 oo 6 (.mov (ot 21))])
 (.seq
 (.seq
 (.regd [3] [oo 22 (.ixp 32 1 (ot 3) (.cst (.d (.int .i64 0)))),
 oo 23 (.ld false 1 (ot 22)),
 oo 24 (.cmp .neq (ot 23) (.cst (.d (.int .u8 105)))),
 oo 25 (.call 87 [(ot 24),(.cst (.d (.int .i64 1)))]),
 oo 26 (.ld true 8 (ot 2)),
 oo 27 (.sla 32 (ot 3) none none),
 oo 28 (.call 88 [(ot 26),(ot 27)]),
 oo 29 (.not (ot 28)),
 oo 30 (.mov (ot 29)),
 ⟨some 31,.mov (ot 6),some (30,false)⟩,
 ⟨some 32,.not (ot 31),some (30,false)⟩,
 oo 33 (.pick (ot 30) (.cst (.d (.bool true))) (ot 32)),
 oo 34 (.call 87 [(ot 33),(.cst (.d (.int .i64 27)))]),
 oo 35 (.bsl 3 43 1 2 [(.int .i64 0),(.int .i64 0)] [(0,(ot 25)),(1,(ot 34))]),
 oo 36 (.call 84 [(ot 35)]),
 oo 7 (.mov (ot 36))] [(0,4),(1,4),(2,4),(3,4),(0,5),(1,5),(2,5),(3,5),(4,5)])
 (.seq
 (.reg [] [oo 37 (.mov (ot 7)),
 oo 38 (.cmp .neq (ot 37) (.cst (.d (.int .i64 0))))])
 (.cond (ot 38)
 (.seq
 (.reg [] [oo 39 (.build [(.d (.int .i64 0)),(.d (.int .i64 0)),(.d (.int .i64 0)),(.d (.int .u8 0)),(.d (.int .u8 0)),(.d (.int .u8 0)),(.d (.int .u8 0)),(.d (.int .u8 0)),(.d (.int .u8 0)),(.d (.int .u8 0)),(.d (.int .u8 0)),(.d (.int .u8 0)),(.d (.int .u8 0)),(.d (.int .u8 0)),(.d (.int .u8 0)),(.d (.int .u8 0)),(.d (.int .u8 0)),(.d (.int .u8 0)),(.d (.int .u8 0))] []),
 oo 40 (.mov (ot 7)),
 ⟨none,.st 19 (ot 4) (ot 39),none⟩,
 oo 5 (.mov (ot 40))])
 .ret)
 .skip)))
 (.seq
 (.regd [] [oo 41 (.sla 32 (ot 3) (some (.cst (.d (.int .i64 1)))) (some (.cst (.d (.int .i64 3))))),
 oo 42 (.call 89 [(ot 41)]),
 oo 43 (.sla 32 (ot 3) (some (.cst (.d (.int .i64 3)))) (some (.cst (.d (.int .i64 5))))),
 oo 44 (.call 89 [(ot 43)]),
 oo 45 (.ixp 32 1 (ot 3) (.cst (.d (.int .i64 5)))),
 oo 46 (.ld false 1 (ot 45)),
 oo 47 (.conv .i64 (ot 46)),
 oo 48 (.sla 32 (ot 3) (some (.cst (.d (.int .i64 6)))) (some (.cst (.d (.int .i64 22))))),
 oo 49 (.s2a 16 (ot 48)),
 oo 50 (.ld true 16 (ot 49)),
 oo 51 (.build [(.d (.int .i64 0)),(.d (.int .i64 0)),(.d (.int .i64 0)),(.d (.int .u8 0)),(.d (.int .u8 0)),(.d (.int .u8 0)),(.d (.int .u8 0)),(.d (.int .u8 0)),(.d (.int .u8 0)),(.d (.int .u8 0)),(.d (.int .u8 0)),(.d (.int .u8 0)),(.d (.int .u8 0)),(.d (.int .u8 0)),(.d (.int .u8 0)),(.d (.int .u8 0)),(.d (.int .u8 0)),(.d (.int .u8 0)),(.d (.int .u8 0))] [(0,1,(ot 42)),(1,1,(ot 44)),(2,1,(ot 47)),(3,16,(ot 50))]),
 ⟨none,.st 19 (ot 4) (ot 51),none⟩,
 oo 5 (.mov (.cst (.d (.int .i64 0))))] [(0,2),(1,2),(0,4),(1,4),(2,4),(3,4),(0,5),(1,5),(2,5),(3,5),(0,6),(1,6),(2,6),(3,6),(0,7),(1,7),(2,7),(3,7),(4,7),(5,7),(6,7),(0,8),(1,8),(2,8),(3,8),(4,8),(5,8),(6,8),(0,9),(1,9),(2,9),(3,9),(4,9),(5,9),(6,9)])
 .ret))))⟩
def tx58:AFun:=⟨17,41,[.tmp 2],
 (.seq
 (.reg [0] [oo 1 (.cbx 0 4 (ot 0)),
 oo 2 (.mov (.cst (.d (.int .i64 0))))])
 (.seq
 (.reg [] [oo 3 (.mov (.cst (.d (.int .i64 0))))])
 (.seq
 (.seq
 (.reg [] [oo 5 (.mov (.cst (.d (.int .i64 0))))])
 (.post [3] [0]
 (.block 0
 (.keep [1,3,5] [0]
 (.loop
 (.post [1,3,5] []
 (.seq
 (.reg [] [oo 6 (.cmp .lss (ot 5) (.cst (.d (.int .i64 4))))])
 (.seq
 (.cond (ot 6)
 .skip
 (.exit 0))
 (.seq
 (.block 1
 (.seq
 (.reg [] [oo 7 (.mov (ot 5)),
 oo 4 (.mov (ot 7))])
 (.reg [] [oo 8 (.mov (ot 3)),
 oo 9 (.shf .shl .i64 (ot 8) (.cst (.d (.int .u64 8)))),
 oo 10 (.mov (ot 4)),
 oo 11 (.ixp 4 1 (ot 1) (ot 10)),
 oo 12 (.ld false 1 (ot 11)),
 oo 13 (.conv .i64 (ot 12)),
 oo 14 (.bit .or .i64 (ot 9) (ot 13)),
 oo 3 (.mov (ot 14))])))
 (.reg [] [oo 15 (.arith .add .i64 (ot 5) (.cst (.d (.int .i64 1)))),
 oo 5 (.mov (ot 15))]))))))))))
 (.seq
 (.reg [] [oo 16 (.mov (ot 3)),
 oo 2 (.mov (ot 16))])
 .ret))))⟩
def tx59:AFun:=⟨60,43,[.tmp 2],
 (.seq
 (.reg [0] [oo 1 (.cbx 0 22 (ot 0)),
 oo 2 (.mov (.cst (.d (.int .i64 0))))])
 (.seq
 (.seq
 (.regd [1] [oo 8 (.fad 0 (ot 1)),
 oo 9 (.ld false 1 (ot 8)),
 oo 10 (.call 73 [(ot 9),(.cst (.d (.int .i64 (-1000000000000)))),(.cst (.d (.int .i64 1000000000000)))]),
 oo 11 (.fad 1 (ot 1)),
 oo 12 (.ld false 1 (ot 11)),
 oo 13 (.call 73 [(ot 12),(.cst (.d (.int .i64 0))),(.cst (.d (.int .i64 1000000000000)))]),
 oo 14 (.fad 2 (ot 1)),
 oo 15 (.ld false 1 (ot 14)),
 oo 16 (.call 73 [(ot 15),(.cst (.d (.int .i64 0))),(.cst (.d (.int .i64 100)))]),
 oo 17 (.fad 3 (ot 1)),
 oo 18 (.ld false 1 (ot 17)),
 oo 19 (.call 73 [(ot 18),(.cst (.d (.int .i64 0))),(.cst (.d (.int .i64 100000000)))]),
 oo 20 (.fad 20 (ot 1)),
 oo 21 (.ld false 1 (ot 20)),
 oo 22 (.not (ot 21)),
 oo 23 (.mov (ot 22)),
 ⟨some 24,.fad 12 (ot 1),some (23,true)⟩,
 ⟨some 25,.ld true 8 (ot 24),some (23,true)⟩,
 ⟨some 26,.build [(.d (.int .u8 0)),(.d (.int .u8 0)),(.d (.int .u8 0)),(.d (.int .u8 0)),(.d (.int .u8 0)),(.d (.int .u8 0)),(.d (.int .u8 0)),(.d (.int .u8 0))] [],some (23,true)⟩,
 ⟨some 27,.aeq true [0,0,0,0,0,0,0,0] (ot 25) (ot 26),some (23,true)⟩,
 oo 28 (.pick (ot 23) (ot 27) (.cst (.d (.bool false)))),
 oo 29 (.call 37 [(ot 28),(.cst (.d (.int .i64 1)))]),
 oo 30 (.fad 21 (ot 1)),
 oo 31 (.ld false 1 (ot 30)),
 oo 32 (.len (ot 31)),
 oo 33 (.cmp .gtr (ot 32) (.cst (.d (.int .i64 256)))),
 oo 34 (.call 37 [(ot 33),(.cst (.d (.int .i64 5)))]),
 oo 35 (.bsl 1 43 1 6 [(.int .i64 0),(.int .i64 0),(.int .i64 0),(.int .i64 0),(.int .i64 0),(.int .i64 0)] [(0,(ot 10)),(1,(ot 13)),(2,(ot 16)),(3,(ot 19)),(4,(ot 29)),(5,(ot 34))]),
 oo 36 (.call 33 [(ot 35)]),
 oo 3 (.mov (ot 36))] [(0,3),(1,3),(2,3),(0,4),(1,4),(2,4),(0,6),(1,6),(2,6),(3,6),(4,6),(5,6),(0,7),(1,7),(2,7),(3,7),(4,7),(5,7),(0,9),(1,9),(2,9),(3,9),(4,9),(5,9),(6,9),(7,9),(8,9),(0,10),(1,10),(2,10),(3,10),(4,10),(5,10),(6,10),(7,10),(8,10),(0,12),(1,12),(2,12),(3,12),(4,12),(5,12),(6,12),(7,12),(8,12),(9,12),(10,12),(11,12),(0,13),(1,13),(2,13),(3,13),(4,13),(5,13),(6,13),(7,13),(8,13),(9,13),(10,13),(11,13),(0,14),(1,14),(2,14),(3,14),(4,14),(5,14),(6,14),(7,14),(8,14),(9,14),(10,14),(11,14),(16,18),(17,18),(0,22),(1,22),(2,22),(3,22),(4,22),(5,22),(6,22),(7,22),(8,22),(9,22),(10,22),(11,22),(12,22),(13,22),(14,22),(15,22),(16,22),(17,22),(18,22),(19,22),(20,22),(21,22),(0,23),(1,23),(2,23),(3,23),(4,23),(5,23),(6,23),(7,23),(8,23),(9,23),(10,23),(11,23),(12,23),(13,23),(14,23),(15,23),(16,23),(17,23),(18,23),(19,23),(20,23),(21,23),(0,24),(1,24),(2,24),(3,24),(4,24),(5,24),(6,24),(7,24),(8,24),(9,24),(10,24),(11,24),(12,24),(13,24),(14,24),(15,24),(16,24),(17,24),(18,24),(19,24),(20,24),(21,24),(0,25),(1,25),(2,25),(3,25),(4,25),(5,25),(6,25),(7,25),(8,25),(9,25),(10,25),(11,25),(12,25),(13,25),(14,25),(15,25),(16,25),(17,25),(18,25),(19,25),(20,25),(21,25)])
 (.seq
 (.reg [] [oo 37 (.mov (ot 3)),
 oo 38 (.cmp .neq (ot 37) (.cst (.d (.int .i64 0))))])
 (.cond (ot 38)
 (.seq
 (.reg [] [oo 39 (.mov (ot 3)),
 oo 2 (.mov (ot 39))])
 .ret)
 .skip)))
 (.seq
 (.reg [] [oo 4 (.mov (.cst (.d (.int .i64 0))))])
 (.seq
 (.seq
 (.reg [] [oo 40 (.fad 21 (ot 1)),
 oo 41 (.ld false 1 (ot 40)),
 oo 42 (.len (ot 41)),
 oo 43 (.mov (.cst (.d (.int .i64 0))))])
 (.post [] [0,1,2]
 (.block 0
 (.keep [4,41,42,43] [0,1]
 (.loop
 (.post [4,41,42,43] [2]
 (.seq
 (.reg [] [oo 44 (.cmp .lss (ot 43) (ot 42))])
 (.seq
 (.cond (ot 44)
 .skip
 (.exit 0))
 (.seq
 (.block 1
 (.seq
 (.reg [] [oo 45 (.ixa 1 (ot 41) (ot 43)),
 oo 46 (.ld false 1 (ot 45)),
 oo 6 (.mov (ot 46))])
 (.seq
 (.seq
 (.reg [2] [oo 47 (.mov (ot 6)),
 oo 48 (.call 73 [(ot 47),(.cst (.d (.int .i64 1))),(.cst (.d (.int .i64 999999999)))]),
 oo 49 (.mov (ot 6)),
 oo 50 (.mov (ot 4)),
 oo 51 (.cmp .leq (ot 49) (ot 50)),
 oo 52 (.call 37 [(ot 51),(.cst (.d (.int .i64 11)))]),
 oo 53 (.bsl 2 43 1 2 [(.int .i64 0),(.int .i64 0)] [(0,(ot 48)),(1,(ot 52))]),
 oo 54 (.call 33 [(ot 53)]),
 oo 7 (.mov (ot 54))])
 (.seq
 (.reg [] [oo 55 (.mov (ot 7)),
 oo 56 (.cmp .neq (ot 55) (.cst (.d (.int .i64 0))))])
 (.cond (ot 56)
 (.seq
 (.reg [] [oo 57 (.mov (ot 7)),
 oo 2 (.mov (ot 57))])
 .ret)
 .skip)))
 (.reg [] [oo 58 (.mov (ot 6)),
 oo 4 (.mov (ot 58))]))))
 (.reg [] [oo 59 (.arith .add .i64 (ot 43) (.cst (.d (.int .i64 1)))),
 oo 43 (.mov (ot 59))]))))))))))
 (.seq
 (.reg [] [oo 2 (.mov (.cst (.d (.int .i64 0))))])
 .ret)))))⟩
def tx60:AFun:=⟨22,43,[.tmp 4],
 (.seq
 (.reg [] [oo 4 (.mov (.cst (.nils 1)))])
 (.seq
 (.reg [] [oo 5 (.mov (.cst (.nils 1)))])
 (.seq
 (.seq
 (.reg [] [oo 8 (.mov (ot 0)),
 oo 9 (.len (ot 8)),
 oo 10 (.mov (.cst (.d (.int .i64 0))))])
 (.post [5] [0,1,2]
 (.block 0
 (.asrow 2 43 1 5
 (.keep [1,5,8,9,10] []
 (.loop
 (.post [1,5,8,9,10] [0,1,2]
 (.seq
 (.reg [] [oo 11 (.cmp .lss (ot 10) (ot 9))])
 (.seq
 (.cond (ot 11)
 .skip
 (.exit 0))
 (.seq
 (.block 1
 (.seq
 (.reg [0] [oo 12 (.ixa 10 (ot 8) (ot 10)),
 oo 13 (.ld true 10 (ot 12)),
 oo 7 (.alloc 0 [(.d (.int .i64 0)),(.d (.int .i64 0)),(.d (.int .u8 0)),(.d (.int .u8 0)),(.d (.int .u8 0)),(.d (.int .u8 0)),(.d (.int .u8 0)),(.d (.int .u8 0)),(.d (.int .u8 0)),(.d (.int .u8 0))]),
 ⟨none,.st 10 (ot 7) (ot 13),none⟩])
 (.reg [1,2] [oo 14 (.mov (ot 5)),
 oo 15 (.mov (ot 1)),
 oo 16 (.ld true 10 (ot 7)),
 oo 17 (.callv (ot 15) [(ot 16)]),
 oo 18 (.bsl 1 43 1 1 [(.int .i64 0)] [(0,(ot 17))]),
 oo 19 (.app 2 43 1 8 (ot 14) (ot 18)),
 oo 5 (.mov (ot 19))])))
 (.reg [] [oo 20 (.arith .add .i64 (ot 10) (.cst (.d (.int .i64 1)))),
 oo 10 (.mov (ot 20))])))))))))))
 (.seq
 (.reg [] [oo 21 (.mov (ot 5)),
 oo 4 (.mov (ot 21))])
 .ret))))⟩
def tx61:AFun:=⟨15,43,[.cell 2 22 true],
 (.seq
 (.reg [0,1] [oo 1 (.box 0 22 (ot 0)),
 oo 2 (.alloc 1 [(.d (.int .i64 0)),(.d (.int .i64 0)),(.d (.int .i64 0)),(.d (.int .i64 0)),(.d (.int .u8 0)),(.d (.int .u8 0)),(.d (.int .u8 0)),(.d (.int .u8 0)),(.d (.int .u8 0)),(.d (.int .u8 0)),(.d (.int .u8 0)),(.d (.int .u8 0)),(.d (.int .u8 0)),(.d (.int .u8 0)),(.d (.int .u8 0)),(.d (.int .u8 0)),(.d (.int .u8 0)),(.d (.int .u8 0)),(.d (.int .u8 0)),(.d (.int .u8 0)),(.d (.bool false)),(.nils 1)])])
 (.seq
 (.reg [2] [oo 4 (.fad 21 (ot 1)),
 oo 5 (.ld false 1 (ot 4)),
 oo 6 (.len (ot 5)),
 oo 7 (.msl 2 3 1 8 (.int .i64 0) (ot 6)),
 oo 3 (.mov (ot 7))])
 (.seq
 (.reg [] [oo 8 (.mov (ot 3)),
 oo 9 (.fad 21 (ot 1)),
 oo 10 (.ld false 1 (ot 9)),
 oo 11 (.copy 1 (ot 8) (ot 10))])
 (.seq
 (.reg [] [oo 12 (.mov (ot 3)),
 oo 13 (.fad 21 (ot 1)),
 ⟨none,.st 1 (ot 13) (ot 12),none⟩])
 (.seq
 (.reg [] [oo 14 (.ld true 22 (ot 1)),
 ⟨none,.st 22 (ot 2) (ot 14),none⟩])
 .ret)))))⟩
def tx62:AFun:=⟨87,48,[.cell 4 22 true,.tmp 5],
 (.seq
 (.reg [0,1,2] [oo 2 (.cbx 0 22 (ot 0)),
 oo 3 (.cbx 1 10 (ot 1)),
 oo 4 (.alloc 2 [(.d (.int .i64 0)),(.d (.int .i64 0)),(.d (.int .i64 0)),(.d (.int .i64 0)),(.d (.int .u8 0)),(.d (.int .u8 0)),(.d (.int .u8 0)),(.d (.int .u8 0)),(.d (.int .u8 0)),(.d (.int .u8 0)),(.d (.int .u8 0)),(.d (.int .u8 0)),(.d (.int .u8 0)),(.d (.int .u8 0)),(.d (.int .u8 0)),(.d (.int .u8 0)),(.d (.int .u8 0)),(.d (.int .u8 0)),(.d (.int .u8 0)),(.d (.int .u8 0)),(.d (.bool false)),(.nils 1)]),
 oo 5 (.mov (.cst (.d (.int .i64 0))))])
 (.seq
 (.seq
 (.reg [] [oo 13 (.ld true 22 (ot 2)),
 oo 14 (.ld true 10 (ot 3)),
 oo 15 (.call 90 [(ot 13),(ot 14)]),
 oo 16 (.not (ot 15))])
 (.cond (ot 16)
 (.seq
 (.reg [] [oo 17 (.ld true 22 (ot 2)),
 ⟨none,.st 22 (ot 4) (ot 17),none⟩,
 oo 5 (.mov (.cst (.d (.int .i64 27))))])
 .ret)
 .skip))
 (.seq
 (.reg [3] [oo 18 (.mkm 3),
 oo 6 (.mov (ot 18))])
 (.seq
 (.seq
 (.reg [] [oo 19 (.fad 21 (ot 2)),
 oo 20 (.ld false 1 (ot 19)),
 oo 21 (.len (ot 20)),
 oo 22 (.mov (.cst (.d (.int .i64 0))))])
 (.post [2,3,4,6] [0,1,2,3]
 (.block 0
 (.keep [2,3,4,6,20,21,22] [0,1,2,3]
 (.loop
 (.post [2,3,4,6,20,21,22] []
 (.seq
 (.reg [] [oo 23 (.cmp .lss (ot 22) (ot 21))])
 (.seq
 (.cond (ot 23)
 .skip
 (.exit 0))
 (.seq
 (.block 1
 (.seq
 (.reg [] [oo 24 (.ixa 1 (ot 20) (ot 22)),
 oo 25 (.ld false 1 (ot 24)),
 oo 8 (.mov (ot 25))])
 (.reg [] [oo 26 (.mov (ot 6)),
 oo 27 (.mov (ot 8)),
 ⟨none,.mpu (some .i64) (ot 26) (ot 27) (.cst (.d (.bool true))),none⟩])))
 (.reg [] [oo 28 (.arith .add .i64 (ot 22) (.cst (.d (.int .i64 1)))),
 oo 22 (.mov (ot 28))]))))))))))
 (.seq
 (.reg [] [oo 29 (.fad 1 (ot 2)),
 oo 30 (.ld false 1 (ot 29)),
 oo 31 (.fad 1 (ot 3)),
 oo 32 (.ld false 1 (ot 31)),
 oo 33 (.fad 2 (ot 2)),
 oo 34 (.ld false 1 (ot 33)),
 oo 35 (.arith .mul .i64 (ot 32) (ot 34)),
 oo 36 (.arith .quo .i64 (ot 35) (.cst (.d (.int .i64 100)))),
 oo 37 (.mini (ot 30) (ot 36)),
 oo 9 (.mov (ot 37))])
 (.seq
 (.reg [] [oo 38 (.fad 1 (ot 3)),
 oo 39 (.ld false 1 (ot 38)),
 oo 40 (.mov (ot 9)),
 oo 41 (.arith .sub .i64 (ot 39) (ot 40)),
 oo 10 (.mov (ot 41))])
 (.seq
 (.seq
 (.regd [4] [oo 42 (.mov (ot 6)),
 oo 43 (.fad 0 (ot 3)),
 oo 44 (.ld false 1 (ot 43)),
 oo 45 (.lkp (some .i64) (.bool false) false (ot 42) (ot 44)),
 oo 46 (.call 37 [(ot 45),(.cst (.d (.int .i64 9)))]),
 oo 47 (.fad 21 (ot 2)),
 oo 48 (.ld false 1 (ot 47)),
 oo 49 (.len (ot 48)),
 oo 50 (.cmp .eql (ot 49) (.cst (.d (.int .i64 256)))),
 oo 51 (.call 37 [(ot 50),(.cst (.d (.int .i64 5)))]),
 oo 52 (.fad 0 (ot 2)),
 oo 53 (.ld false 1 (ot 52)),
 oo 54 (.mov (ot 10)),
 oo 55 (.arith .sub .i64 (.cst (.d (.int .i64 1000000000000))) (ot 54)),
 oo 56 (.cmp .gtr (ot 53) (ot 55)),
 oo 57 (.call 37 [(ot 56),(.cst (.d (.int .i64 4)))]),
 oo 58 (.bsl 4 43 1 3 [(.int .i64 0),(.int .i64 0),(.int .i64 0)] [(0,(ot 46)),(1,(ot 51)),(2,(ot 57))]),
 oo 59 (.call 33 [(ot 58)]),
 oo 11 (.mov (ot 59))] [(0,1),(0,2),(0,5),(1,5),(2,5),(3,5),(4,5),(0,6),(1,6),(2,6),(3,6),(4,6),(0,7),(1,7),(2,7),(3,7),(4,7),(0,8),(1,8),(2,8),(3,8),(4,8),(0,10),(1,10),(2,10),(3,10),(4,10),(5,10),(6,10),(7,10),(8,10),(9,10),(0,11),(1,11),(2,11),(3,11),(4,11),(5,11),(6,11),(7,11),(8,11),(9,11),(0,12),(1,12),(2,12),(3,12),(4,12),(5,12),(6,12),(7,12),(8,12),(9,12),(10,12),(11,12),(0,13),(1,13),(2,13),(3,13),(4,13),(5,13),(6,13),(7,13),(8,13),(9,13),(10,13),(11,13),(0,14),(1,14),(2,14),(3,14),(4,14),(5,14),(6,14),(7,14),(8,14),(9,14)])
 (.seq
 (.reg [] [oo 60 (.mov (ot 11)),
 oo 61 (.cmp .neq (ot 60) (.cst (.d (.int .i64 0))))])
 (.cond (ot 61)
 (.seq
 (.reg [] [oo 62 (.ld true 22 (ot 2)),
 oo 63 (.mov (ot 11)),
 ⟨none,.st 22 (ot 4) (ot 62),none⟩,
 oo 5 (.mov (ot 63))])
 .ret)
 .skip)))
 (.seq
 (.reg [5] [oo 64 (.ld true 22 (ot 2)),
 oo 65 (.calli 61 [(ot 64)]),
 oo 12 (.alloc 5 [(.d (.int .i64 0)),(.d (.int .i64 0)),(.d (.int .i64 0)),(.d (.int .i64 0)),(.d (.int .u8 0)),(.d (.int .u8 0)),(.d (.int .u8 0)),(.d (.int .u8 0)),(.d (.int .u8 0)),(.d (.int .u8 0)),(.d (.int .u8 0)),(.d (.int .u8 0)),(.d (.int .u8 0)),(.d (.int .u8 0)),(.d (.int .u8 0)),(.d (.int .u8 0)),(.d (.int .u8 0)),(.d (.int .u8 0)),(.d (.int .u8 0)),(.d (.int .u8 0)),(.d (.bool false)),(.nils 1)]),
 ⟨none,.st 22 (ot 12) (ot 65),none⟩])
 (.seq
 (.reg [] [oo 66 (.fad 1 (ot 12)),
 oo 67 (.ld false 1 (ot 66)),
 oo 68 (.mov (ot 9)),
 oo 69 (.arith .sub .i64 (ot 67) (ot 68)),
 oo 70 (.fad 1 (ot 12)),
 ⟨none,.st 1 (ot 70) (ot 69),none⟩])
 (.seq
 (.reg [] [oo 71 (.fad 0 (ot 12)),
 oo 72 (.ld false 1 (ot 71)),
 oo 73 (.mov (ot 10)),
 oo 74 (.arith .add .i64 (ot 72) (ot 73)),
 oo 75 (.fad 0 (ot 12)),
 ⟨none,.st 1 (ot 75) (ot 74),none⟩])
 (.seq
 (.reg [6,7] [oo 76 (.fad 21 (ot 12)),
 oo 77 (.ld false 1 (ot 76)),
 oo 78 (.fad 0 (ot 3)),
 oo 79 (.ld false 1 (ot 78)),
 oo 80 (.bsl 6 3 1 1 [(.int .i64 0)] [(0,(ot 79))]),
 oo 81 (.app 7 3 1 8 (ot 77) (ot 80)),
 oo 82 (.fad 21 (ot 12)),
 ⟨none,.st 1 (ot 82) (ot 81),none⟩])
 (.seq
 (.reg [] [oo 83 (.fad 21 (ot 12)),
 oo 84 (.ld false 1 (ot 83)),
 oo 85 (.calli 91 [(ot 84)])])
 (.seq
 (.reg [] [oo 86 (.ld true 22 (ot 12)),
 ⟨none,.st 22 (ot 4) (ot 86),none⟩,
 oo 5 (.mov (.cst (.d (.int .i64 0))))])
 .ret)))))))))))))⟩
def tx63:AFun:=⟨22,43,[.tmp 4],
 (.seq
 (.reg [] [oo 4 (.mov (.cst (.nils 1)))])
 (.seq
 (.reg [] [oo 5 (.mov (.cst (.nils 1)))])
 (.seq
 (.seq
 (.reg [] [oo 8 (.mov (ot 0)),
 oo 9 (.len (ot 8)),
 oo 10 (.mov (.cst (.d (.int .i64 0))))])
 (.post [5] [0,1,2]
 (.block 0
 (.asrow 2 3 1 5
 (.keep [1,5,8,9,10] []
 (.loop
 (.post [1,5,8,9,10] [0,1,2]
 (.seq
 (.reg [] [oo 11 (.cmp .lss (ot 10) (ot 9))])
 (.seq
 (.cond (ot 11)
 .skip
 (.exit 0))
 (.seq
 (.block 1
 (.seq
 (.reg [0] [oo 12 (.ixa 11 (ot 8) (ot 10)),
 oo 13 (.ld true 11 (ot 12)),
 oo 7 (.alloc 0 [(.d (.int .i64 0)),(.d (.int .i64 0)),(.d (.int .u8 0)),(.d (.int .u8 0)),(.d (.int .u8 0)),(.d (.int .u8 0)),(.d (.int .u8 0)),(.d (.int .u8 0)),(.d (.int .u8 0)),(.d (.int .u8 0)),(.d (.int .i64 0))]),
 ⟨none,.st 11 (ot 7) (ot 13),none⟩])
 (.reg [1,2] [oo 14 (.mov (ot 5)),
 oo 15 (.mov (ot 1)),
 oo 16 (.ld true 11 (ot 7)),
 oo 17 (.callv (ot 15) [(ot 16)]),
 oo 18 (.bsl 1 3 1 1 [(.int .i64 0)] [(0,(ot 17))]),
 oo 19 (.app 2 3 1 8 (ot 14) (ot 18)),
 oo 5 (.mov (ot 19))])))
 (.reg [] [oo 20 (.arith .add .i64 (ot 10) (.cst (.d (.int .i64 1)))),
 oo 10 (.mov (ot 20))])))))))))))
 (.seq
 (.reg [] [oo 21 (.mov (ot 5)),
 oo 4 (.mov (ot 21))])
 .ret))))⟩
def tx64:AFun:=⟨5,41,[.tmp 2],
 (.seq
 (.reg [0] [oo 1 (.cbx 0 11 (ot 0)),
 oo 2 (.mov (.cst (.d (.int .i64 0))))])
 (.seq
 (.reg [] [oo 3 (.fad 10 (ot 1)),
 oo 4 (.ld false 1 (ot 3)),
 oo 2 (.mov (ot 4))])
 .ret))⟩
def tx73:AFun:=⟨16,40,[.tmp 6],
 (.seq
 (.reg [] [oo 6 (.mov (.cst (.d (.int .i64 0))))])
 (.seq
 (.reg [] [oo 7 (.mov (ot 0)),
 oo 8 (.mov (ot 1)),
 oo 9 (.cmp .lss (ot 7) (ot 8)),
 oo 10 (.mov (ot 9)),
 ⟨some 11,.mov (ot 0),some (10,false)⟩,
 ⟨some 12,.mov (ot 2),some (10,false)⟩,
 ⟨some 13,.cmp .gtr (ot 11) (ot 12),some (10,false)⟩,
 oo 14 (.pick (ot 10) (.cst (.d (.bool true))) (ot 13)),
 oo 15 (.call 37 [(ot 14),(.cst (.d (.int .i64 3)))]),
 oo 6 (.mov (ot 15))])
 .ret))⟩
def tx82:AFun:=⟨13,42,[.cell 4 8 true,.tmp 5],
 (.seq
 (.reg [0,1] [oo 2 (.cbx 0 8 (ot 0)),
 oo 4 (.alloc 1 [(.d (.int .u8 0)),(.d (.int .u8 0)),(.d (.int .u8 0)),(.d (.int .u8 0)),(.d (.int .u8 0)),(.d (.int .u8 0)),(.d (.int .u8 0)),(.d (.int .u8 0))]),
 oo 5 (.mov (.cst (.d (.int .i64 0))))])
 (.seq
 (.seq
 (.reg [] [oo 6 (.mov (ot 1)),
 oo 7 (.len (ot 6)),
 oo 8 (.cmp .gtr (ot 7) (.cst (.d (.int .i64 400000))))])
 (.cond (ot 8)
 (.seq
 (.reg [] [oo 9 (.build [(.d (.int .u8 0)),(.d (.int .u8 0)),(.d (.int .u8 0)),(.d (.int .u8 0)),(.d (.int .u8 0)),(.d (.int .u8 0)),(.d (.int .u8 0)),(.d (.int .u8 0))] []),
 ⟨none,.st 8 (ot 4) (ot 9),none⟩,
 oo 5 (.mov (.cst (.d (.int .i64 26))))])
 .ret)
 .skip))
 (.seq
 (.reg [] [oo 10 (.ld true 8 (ot 2)),
 oo 11 (.mov (ot 1)),
 oo 12 (.call 86 [(ot 10),(ot 11)]),
 ⟨none,.st 8 (ot 4) (ot 12),none⟩,
 oo 5 (.mov (.cst (.d (.int .i64 0))))])
 .ret)))⟩
def tx83:AFun:=⟨15,41,[.cell 2 4 true],
 (.seq
 (.reg [0] [oo 2 (.alloc 0 [(.d (.int .u8 0)),(.d (.int .u8 0)),(.d (.int .u8 0)),(.d (.int .u8 0))])])
 (.seq
 (.reg [] [oo 3 (.mov (ot 0)),
 oo 4 (.shf .shr .i64 (ot 3) (.cst (.d (.int .u64 24)))),
 oo 5 (.conv .u8 (ot 4)),
 oo 6 (.mov (ot 0)),
 oo 7 (.shf .shr .i64 (ot 6) (.cst (.d (.int .u64 16)))),
 oo 8 (.conv .u8 (ot 7)),
 oo 9 (.mov (ot 0)),
 oo 10 (.shf .shr .i64 (ot 9) (.cst (.d (.int .u64 8)))),
 oo 11 (.conv .u8 (ot 10)),
 oo 12 (.mov (ot 0)),
 oo 13 (.conv .u8 (ot 12)),
 oo 14 (.build [(.d (.int .u8 0)),(.d (.int .u8 0)),(.d (.int .u8 0)),(.d (.int .u8 0))] [(0,1,(ot 5)),(1,1,(ot 8)),(2,1,(ot 11)),(3,1,(ot 13))]),
 ⟨none,.st 4 (ot 2) (ot 14),none⟩])
 .ret))⟩
def tx84:AFun:=⟨15,40,[.tmp 2],
 (.seq
 (.reg [] [oo 2 (.mov (.cst (.d (.int .i64 0))))])
 (.seq
 (.seq
 (.reg [] [oo 5 (.mov (ot 0)),
 oo 6 (.len (ot 5)),
 oo 7 (.mov (.cst (.d (.int .i64 0))))])
 (.post [] []
 (.block 0
 (.keep [5,6,7] []
 (.loop
 (.post [5,6,7] []
 (.seq
 (.reg [] [oo 8 (.cmp .lss (ot 7) (ot 6))])
 (.seq
 (.cond (ot 8)
 .skip
 (.exit 0))
 (.seq
 (.block 1
 (.seq
 (.reg [] [oo 9 (.ixa 1 (ot 5) (ot 7)),
 oo 10 (.ld false 1 (ot 9)),
 oo 4 (.mov (ot 10))])
 (.seq
 (.reg [] [oo 11 (.mov (ot 4)),
 oo 12 (.cmp .neq (ot 11) (.cst (.d (.int .i64 0))))])
 (.cond (ot 12)
 (.seq
 (.reg [] [oo 13 (.mov (ot 4)),
 oo 2 (.mov (ot 13))])
 .ret)
 .skip))))
 (.reg [] [oo 14 (.arith .add .i64 (ot 7) (.cst (.d (.int .i64 1)))),
 oo 7 (.mov (ot 14))]))))))))))
 (.seq
 (.reg [] [oo 2 (.mov (.cst (.d (.int .i64 0))))])
 .ret)))⟩
def tx85:AFun:=⟨16,40,[.tmp 6],
 (.seq
 (.reg [] [oo 6 (.mov (.cst (.d (.int .i64 0))))])
 (.seq
 (.reg [] [oo 7 (.mov (ot 0)),
 oo 8 (.mov (ot 1)),
 oo 9 (.cmp .lss (ot 7) (ot 8)),
 oo 10 (.mov (ot 9)),
 ⟨some 11,.mov (ot 0),some (10,false)⟩,
 ⟨some 12,.mov (ot 2),some (10,false)⟩,
 ⟨some 13,.cmp .gtr (ot 11) (ot 12),some (10,false)⟩,
 oo 14 (.pick (ot 10) (.cst (.d (.bool true))) (ot 13)),
 oo 15 (.call 87 [(ot 14),(.cst (.d (.int .i64 3)))]),
 oo 6 (.mov (ot 15))])
 .ret))⟩
def tx86:AFun:=⟨40,42,[.cell 4 8 true],
 (.seq
 (.reg [0,1] [oo 2 (.box 0 8 (ot 0)),
 oo 4 (.alloc 1 [(.d (.int .u8 0)),(.d (.int .u8 0)),(.d (.int .u8 0)),(.d (.int .u8 0)),(.d (.int .u8 0)),(.d (.int .u8 0)),(.d (.int .u8 0)),(.d (.int .u8 0))])])
 (.seq
 (.seq
 (.reg [] [oo 9 (.mov (.cst (.d (.int .i64 0))))])
 (.post [2,4] [0,1]
 (.block 0
 (.keep [1,2,4,9] [0,1]
 (.loop
 (.post [1,2,4,9] []
 (.seq
 (.reg [] [oo 10 (.cmp .lss (ot 9) (.cst (.d (.int .i64 8))))])
 (.seq
 (.cond (ot 10)
 .skip
 (.exit 0))
 (.seq
 (.block 1
 (.seq
 (.reg [] [oo 11 (.mov (ot 9)),
 oo 5 (.mov (ot 11))])
 (.seq
 (.reg [] [oo 12 (.mov (ot 5)),
 oo 13 (.ixp 8 1 (ot 2) (ot 12)),
 oo 14 (.ld false 1 (ot 13)),
 oo 15 (.conv .i64 (ot 14)),
 oo 6 (.mov (ot 15))])
 (.seq
 (.seq
 (.reg [] [oo 16 (.mov (ot 1)),
 oo 17 (.len (ot 16)),
 oo 18 (.mov (.cst (.d (.int .i64 0))))])
 (.post [1,2,4,5,6,9] [0,1]
 (.block 2
 (.keep [1,2,4,5,6,9,16,17,18] [0,1]
 (.loop
 (.post [1,2,4,5,6,9,16,17,18] []
 (.seq
 (.reg [] [oo 19 (.cmp .lss (ot 18) (ot 17))])
 (.seq
 (.cond (ot 19)
 .skip
 (.exit 2))
 (.seq
 (.block 3
 (.seq
 (.reg [] [oo 20 (.ixa 1 (ot 16) (ot 18)),
 oo 21 (.ld false 1 (ot 20)),
 oo 8 (.mov (ot 21))])
 (.reg [] [oo 22 (.mov (ot 5)),
 oo 23 (.arith .mul .i64 (.cst (.d (.int .i64 2))) (ot 22)),
 oo 24 (.arith .add .i64 (ot 23) (.cst (.d (.int .i64 3)))),
 oo 25 (.mov (ot 6)),
 oo 26 (.arith .mul .i64 (ot 24) (ot 25)),
 oo 27 (.mov (ot 8)),
 oo 28 (.conv .i64 (ot 27)),
 oo 29 (.arith .add .i64 (ot 26) (ot 28)),
 oo 30 (.mov (ot 5)),
 oo 31 (.arith .add .i64 (ot 29) (ot 30)),
 oo 32 (.arith .rem .i64 (ot 31) (.cst (.d (.int .i64 256)))),
 oo 6 (.mov (ot 32))])))
 (.reg [] [oo 33 (.arith .add .i64 (ot 18) (.cst (.d (.int .i64 1)))),
 oo 18 (.mov (ot 33))]))))))))))
 (.reg [] [oo 34 (.mov (ot 5)),
 oo 35 (.mov (ot 6)),
 oo 36 (.conv .u8 (ot 35)),
 oo 37 (.ixp 8 1 (ot 2) (ot 34)),
 ⟨none,.st 1 (ot 37) (ot 36),none⟩])))))
 (.reg [] [oo 38 (.arith .add .i64 (ot 9) (.cst (.d (.int .i64 1)))),
 oo 9 (.mov (ot 38))]))))))))))
 (.seq
 (.reg [] [oo 39 (.ld true 8 (ot 2)),
 ⟨none,.st 8 (ot 4) (ot 39),none⟩])
 .ret)))⟩
def tx87:AFun:=⟨7,40,[.tmp 4],
 (.seq
 (.reg [] [oo 4 (.mov (.cst (.d (.int .i64 0))))])
 (.seq
 (.seq
 (.reg [] [oo 5 (.mov (ot 0))])
 (.cond (ot 5)
 (.seq
 (.reg [] [oo 6 (.mov (ot 1)),
 oo 4 (.mov (ot 6))])
 .ret)
 .skip))
 (.seq
 (.reg [] [oo 4 (.mov (.cst (.d (.int .i64 0))))])
 .ret)))⟩
def tx88:AFun:=⟨24,41,[.tmp 4],
 (.seq
 (.reg [0] [oo 2 (.cbx 0 8 (ot 0)),
 oo 4 (.mov (.cst (.d (.bool false))))])
 (.seq
 (.reg [] [oo 6 (.mov (ot 1)),
 oo 7 (.len (ot 6)),
 oo 8 (.arith .sub .i64 (ot 7) (.cst (.d (.int .i64 8)))),
 oo 5 (.mov (ot 8))])
 (.seq
 (.regd [] [oo 9 (.mov (ot 5)),
 oo 10 (.cmp .geq (ot 9) (.cst (.d (.int .i64 0)))),
 oo 11 (.mov (ot 10)),
 ⟨some 12,.ld true 8 (ot 2),some (11,true)⟩,
 ⟨some 13,.mov (ot 1),some (11,true)⟩,
 ⟨some 14,.mov (ot 5),some (11,true)⟩,
 ⟨some 15,.slc 1 (ot 13) none (some (ot 14)),some (11,true)⟩,
 ⟨some 16,.call 86 [(ot 12),(ot 15)],some (11,true)⟩,
 ⟨some 17,.mov (ot 1),some (11,true)⟩,
 ⟨some 18,.mov (ot 5),some (11,true)⟩,
 ⟨some 19,.slc 1 (ot 17) (some (ot 18)) none,some (11,true)⟩,
 ⟨some 20,.s2a 8 (ot 19),some (11,true)⟩,
 ⟨some 21,.ld true 8 (ot 20),some (11,true)⟩,
 ⟨some 22,.aeq false [0,0,0,0,0,0,0,0] (ot 16) (ot 21),some (11,true)⟩,
 oo 23 (.pick (ot 11) (ot 22) (.cst (.d (.bool false)))),
 oo 4 (.mov (ot 23))] [(3,4),(3,5),(4,5),(3,6),(3,8),(4,8),(5,8),(6,8),(7,8),(3,9),(4,9),(5,9),(6,9),(7,9),(8,9),(3,10),(4,10),(5,10),(6,10),(7,10),(3,11),(4,11),(5,11),(6,11),(7,11),(3,12),(4,12),(5,12),(6,12),(7,12)])
 .ret)))⟩
def tx89:AFun:=⟨19,40,[.tmp 2],
 (.seq
 (.reg [] [oo 2 (.mov (.cst (.d (.int .i64 0))))])
 (.seq
 (.reg [] [oo 3 (.mov (.cst (.d (.int .i64 0))))])
 (.seq
 (.seq
 (.reg [] [oo 6 (.mov (ot 0)),
 oo 7 (.len (ot 6)),
 oo 8 (.mov (.cst (.d (.int .i64 0))))])
 (.post [3] []
 (.block 0
 (.keep [3,6,7,8] []
 (.loop
 (.post [3,6,7,8] []
 (.seq
 (.reg [] [oo 9 (.cmp .lss (ot 8) (ot 7))])
 (.seq
 (.cond (ot 9)
 .skip
 (.exit 0))
 (.seq
 (.block 1
 (.seq
 (.reg [] [oo 10 (.ixa 1 (ot 6) (ot 8)),
 oo 11 (.ld false 1 (ot 10)),
 oo 5 (.mov (ot 11))])
 (.reg [] [oo 12 (.mov (ot 3)),
 oo 13 (.shf .shl .i64 (ot 12) (.cst (.d (.int .u64 8)))),
 oo 14 (.mov (ot 5)),
 oo 15 (.conv .i64 (ot 14)),
 oo 16 (.bit .or .i64 (ot 13) (ot 15)),
 oo 3 (.mov (ot 16))])))
 (.reg [] [oo 17 (.arith .add .i64 (ot 8) (.cst (.d (.int .i64 1)))),
 oo 8 (.mov (ot 17))]))))))))))
 (.seq
 (.reg [] [oo 18 (.mov (ot 3)),
 oo 2 (.mov (ot 18))])
 .ret))))⟩
def tx90:AFun:=⟨23,42,[.tmp 4],
 (.seq
 (.reg [0,1] [oo 2 (.cbx 0 22 (ot 0)),
 oo 3 (.cbx 1 10 (ot 1)),
 oo 4 (.mov (.cst (.d (.bool false))))])
 (.seq
 (.regd [] [oo 5 (.ld true 10 (ot 3)),
 oo 6 (.ld true 10 (ot 3)),
 oo 7 (.fad 4 (ot 2)),
 oo 8 (.ld true 8 (ot 7)),
 oo 9 (.call 52 [(ot 6),(ot 8)]),
 oo 10 (.aeq false [0,0,0,0,0,0,0,0,0,0] (ot 5) (ot 9)),
 oo 11 (.mov (ot 10)),
 ⟨some 12,.fad 20 (ot 2),some (11,false)⟩,
 ⟨some 13,.ld false 1 (ot 12),some (11,false)⟩,
 ⟨some 14,.mov (ot 13),some (11,false)⟩,
 ⟨some 15,.ld true 10 (ot 3),some (14,true)⟩,
 ⟨some 16,.ld true 10 (ot 3),some (14,true)⟩,
 ⟨some 17,.fad 12 (ot 2),some (14,true)⟩,
 ⟨some 18,.ld true 8 (ot 17),some (14,true)⟩,
 ⟨some 19,.call 52 [(ot 16),(ot 18)],some (14,true)⟩,
 ⟨some 20,.aeq false [0,0,0,0,0,0,0,0,0,0] (ot 15) (ot 19),some (14,true)⟩,
 ⟨some 21,.pick (ot 14) (ot 20) (.cst (.d (.bool false))),some (11,false)⟩,
 oo 22 (.pick (ot 11) (.cst (.d (.bool true))) (ot 21)),
 oo 4 (.mov (ot 22))] [(0,1),(0,2),(1,2),(0,3),(1,3),(0,4),(10,11),(10,12),(11,12),(10,13),(11,13),(10,14)])
 .ret))⟩
def tx91:AFun:=⟨11,40,[],
 (.seq
 (.reg [] [oo 3 (.mov (ot 0)),
 oo 4 (.len (ot 3)),
 oo 2 (.mov (ot 4))])
 (.reg [] [oo 5 (.mov (ot 0)),
 oo 6 (.mov (ot 2)),
 oo 7 (.mov (ot 2)),
 oo 8 (.conv .u64 (ot 7)),
 oo 9 (.call 104 [(ot 8)]),
 oo 10 (.calli 103 [(ot 5),(.cst (.d (.int .i64 0))),(ot 6),(ot 9)])]))⟩
def tx103:AFun:=⟨134,40,[],
 (.seq
 (.reg [] [oo 8 (.mov (.cst (.d (.bool true))))])
 (.seq
 (.reg [] [oo 9 (.mov (.cst (.d (.bool true))))])
 (.post [] []
 (.block 0
 (.keep [0,1,2,3,8,9] []
 (.loop
 (.post [0,1,2,3,8,9] []
 (.block 1
 (.seq
 (.reg [] [oo 19 (.mov (ot 2)),
 oo 20 (.mov (ot 1)),
 oo 21 (.arith .sub .i64 (ot 19) (ot 20)),
 oo 10 (.mov (ot 21))])
 (.seq
 (.seq
 (.reg [] [oo 22 (.mov (ot 10)),
 oo 23 (.cmp .leq (ot 22) (.cst (.d (.int .i64 12))))])
 (.cond (ot 23)
 (.seq
 (.reg [] [oo 24 (.mov (ot 0)),
 oo 25 (.mov (ot 1)),
 oo 26 (.mov (ot 2)),
 oo 27 (.calli 107 [(ot 24),(ot 25),(ot 26)])])
 .ret)
 .skip))
 (.seq
 (.seq
 (.reg [] [oo 28 (.mov (ot 3)),
 oo 29 (.cmp .eql (ot 28) (.cst (.d (.int .i64 0))))])
 (.cond (ot 29)
 (.seq
 (.reg [] [oo 30 (.mov (ot 0)),
 oo 31 (.mov (ot 1)),
 oo 32 (.mov (ot 2)),
 oo 33 (.calli 108 [(ot 30),(ot 31),(ot 32)])])
 .ret)
 .skip))
 (.seq
 (.seq
 (.reg [] [oo 34 (.mov (ot 8)),
 oo 35 (.not (ot 34))])
 (.cond (ot 35)
 (.seq
 (.reg [] [oo 36 (.mov (ot 0)),
 oo 37 (.mov (ot 1)),
 oo 38 (.mov (ot 2)),
 oo 39 (.calli 109 [(ot 36),(ot 37),(ot 38)])])
 (.reg [] [oo 40 (.mov (ot 3)),
 oo 41 (.arith .sub .i64 (ot 40) (.cst (.d (.int .i64 1)))),
 oo 3 (.mov (ot 41))]))
 .skip))
 (.seq
 (.reg [] [oo 43 (.mov (ot 0)),
 oo 44 (.mov (ot 1)),
 oo 45 (.mov (ot 2)),
 oo 46 (.calli 110 [(ot 43),(ot 44),(ot 45)]),
 oo 42 (.mov (ot 46)),
 oo 47 (.ext 0 (ot 42)),
 oo 48 (.ext 1 (ot 42)),
 oo 11 (.mov (ot 47)),
 oo 12 (.mov (ot 48))])
 (.seq
 (.seq
 (.reg [] [oo 49 (.mov (ot 12)),
 oo 50 (.cmp .eql (ot 49) (.cst (.d (.int .i64 2))))])
 (.cond (ot 50)
 (.seq
 (.reg [] [oo 51 (.mov (ot 0)),
 oo 52 (.mov (ot 1)),
 oo 53 (.mov (ot 2)),
 oo 54 (.calli 111 [(ot 51),(ot 52),(ot 53)])])
 (.seq
 (.reg [] [oo 55 (.mov (ot 2)),
 oo 56 (.arith .sub .i64 (ot 55) (.cst (.d (.int .i64 1)))),
 oo 57 (.mov (ot 11)),
 oo 58 (.mov (ot 1)),
 oo 59 (.arith .sub .i64 (ot 57) (ot 58)),
 oo 60 (.arith .sub .i64 (ot 56) (ot 59)),
 oo 11 (.mov (ot 60))])
 (.reg [] [oo 12 (.mov (.cst (.d (.int .i64 1))))])))
 .skip))
 (.seq
 (.seq
 (.reg [] [oo 61 (.mov (ot 8)),
 oo 62 (.mov (ot 61)),
 ⟨some 63,.mov (ot 9),some (62,true)⟩,
 oo 64 (.pick (ot 62) (ot 63) (.cst (.d (.bool false)))),
 oo 65 (.mov (ot 64)),
 ⟨some 66,.mov (ot 12),some (65,true)⟩,
 ⟨some 67,.cmp .eql (ot 66) (.cst (.d (.int .i64 1))),some (65,true)⟩,
 oo 68 (.pick (ot 65) (ot 67) (.cst (.d (.bool false))))])
 (.cond (ot 68)
 (.seq
 (.reg [] [oo 69 (.mov (ot 0)),
 oo 70 (.mov (ot 1)),
 oo 71 (.mov (ot 2)),
 oo 72 (.calli 112 [(ot 69),(ot 70),(ot 71)])])
 (.cond (ot 72)
 .ret
 .skip))
 .skip))
 (.seq
 (.seq
 (.regd [] [oo 73 (.mov (ot 1)),
 oo 74 (.cmp .gtr (ot 73) (.cst (.d (.int .i64 0)))),
 oo 75 (.mov (ot 74)),
 ⟨some 76,.mov (ot 0),some (75,true)⟩,
 ⟨some 77,.mov (ot 1),some (75,true)⟩,
 ⟨some 78,.arith .sub .i64 (ot 77) (.cst (.d (.int .i64 1))),some (75,true)⟩,
 ⟨some 79,.ixa 1 (ot 76) (ot 78),some (75,true)⟩,
 ⟨some 80,.ld false 1 (ot 79),some (75,true)⟩,
 ⟨some 81,.mov (ot 0),some (75,true)⟩,
 ⟨some 82,.mov (ot 11),some (75,true)⟩,
 ⟨some 83,.ixa 1 (ot 81) (ot 82),some (75,true)⟩,
 ⟨some 84,.ld false 1 (ot 83),some (75,true)⟩,
 ⟨some 85,.call 113 [(ot 80),(ot 84)],some (75,true)⟩,
 ⟨some 86,.not (ot 85),some (75,true)⟩,
 oo 87 (.pick (ot 75) (ot 86) (.cst (.d (.bool false))))] [(3,4),(3,5),(3,8),(4,8),(5,8),(6,8),(7,8),(3,9),(4,9),(5,9),(6,9),(7,9),(8,9),(3,10),(4,10),(5,10),(6,10),(7,10),(3,11),(4,11),(5,11),(6,11),(7,11)])
 (.cond (ot 87)
 (.seq
 (.reg [] [oo 88 (.mov (ot 0)),
 oo 89 (.mov (ot 1)),
 oo 90 (.mov (ot 2)),
 oo 91 (.mov (ot 11)),
 oo 92 (.calli 114 [(ot 88),(ot 89),(ot 90),(ot 91)]),
 oo 13 (.mov (ot 92))])
 (.seq
 (.reg [] [oo 93 (.mov (ot 13)),
 oo 1 (.mov (ot 93))])
 (.exit 1)))
 .skip))
 (.seq
 (.reg [] [oo 95 (.mov (ot 0)),
 oo 96 (.mov (ot 1)),
 oo 97 (.mov (ot 2)),
 oo 98 (.mov (ot 11)),
 oo 99 (.calli 115 [(ot 95),(ot 96),(ot 97),(ot 98)]),
 oo 94 (.mov (ot 99)),
 oo 100 (.ext 0 (ot 94)),
 oo 101 (.ext 1 (ot 94)),
 oo 14 (.mov (ot 100)),
 oo 15 (.mov (ot 101))])
 (.seq
 (.reg [] [oo 102 (.mov (ot 15)),
 oo 9 (.mov (ot 102))])
 (.seq
 (.reg [] [oo 103 (.mov (ot 14)),
 oo 104 (.mov (ot 1)),
 oo 105 (.arith .sub .i64 (ot 103) (ot 104)),
 oo 106 (.mov (ot 2)),
 oo 107 (.mov (ot 14)),
 oo 108 (.arith .sub .i64 (ot 106) (ot 107)),
 oo 16 (.mov (ot 105)),
 oo 17 (.mov (ot 108))])
 (.seq
 (.reg [] [oo 109 (.mov (ot 10)),
 oo 110 (.arith .quo .i64 (ot 109) (.cst (.d (.int .i64 8)))),
 oo 18 (.mov (ot 110))])
 (.seq
 (.reg [] [oo 111 (.mov (ot 16)),
 oo 112 (.mov (ot 17)),
 oo 113 (.cmp .lss (ot 111) (ot 112))])
 (.cond (ot 113)
 (.seq
 (.reg [] [oo 114 (.mov (ot 16)),
 oo 115 (.mov (ot 18)),
 oo 116 (.cmp .geq (ot 114) (ot 115)),
 oo 8 (.mov (ot 116))])
 (.seq
 (.reg [] [oo 117 (.mov (ot 0)),
 oo 118 (.mov (ot 1)),
 oo 119 (.mov (ot 14)),
 oo 120 (.mov (ot 3)),
 oo 121 (.calli 103 [(ot 117),(ot 118),(ot 119),(ot 120)])])
 (.reg [] [oo 122 (.mov (ot 14)),
 oo 123 (.arith .add .i64 (ot 122) (.cst (.d (.int .i64 1)))),
 oo 1 (.mov (ot 123))])))
 (.seq
 (.reg [] [oo 124 (.mov (ot 17)),
 oo 125 (.mov (ot 18)),
 oo 126 (.cmp .geq (ot 124) (ot 125)),
 oo 8 (.mov (ot 126))])
 (.seq
 (.reg [] [oo 127 (.mov (ot 0)),
 oo 128 (.mov (ot 14)),
 oo 129 (.arith .add .i64 (ot 128) (.cst (.d (.int .i64 1)))),
 oo 130 (.mov (ot 2)),
 oo 131 (.mov (ot 3)),
 oo 132 (.calli 103 [(ot 127),(ot 129),(ot 130),(ot 131)])])
 (.reg [] [oo 133 (.mov (ot 14)),
 oo 2 (.mov (ot 133))])))))))))))))))))))))))))⟩
def tx104:AFun:=⟨8,40,[.tmp 2],
 (.seq
 (.reg [] [oo 2 (.mov (.cst (.d (.int .i64 0))))])
 (.seq
 (.cond (.cst (.d (.bool false)))
 (.seq
 (.reg [] [oo 3 (.mov (ot 0)),
 oo 4 (.conv .u32 (ot 3)),
 oo 5 (.call 116 [(ot 4)]),
 oo 2 (.mov (ot 5))])
 .ret)
 .skip)
 (.seq
 (.reg [] [oo 6 (.mov (ot 0)),
 oo 7 (.call 117 [(ot 6)]),
 oo 2 (.mov (ot 7))])
 .ret)))⟩
def tx107:AFun:=⟨49,40,[],
 (.seq
 (.reg [] [oo 8 (.mov (ot 1)),
 oo 9 (.arith .add .i64 (ot 8) (.cst (.d (.int .i64 1)))),
 oo 6 (.mov (ot 9))])
 (.post [] []
 (.block 0
 (.keep [0,1,2,6] []
 (.loop
 (.post [0,1,2,6] []
 (.seq
 (.seq
 (.reg [] [oo 10 (.mov (ot 6)),
 oo 11 (.mov (ot 2)),
 oo 12 (.cmp .lss (ot 10) (ot 11))])
 (.cond (ot 12)
 .skip
 (.exit 0)))
 (.seq
 (.block 1
 (.seq
 (.reg [] [oo 15 (.mov (ot 6)),
 oo 7 (.mov (ot 15))])
 (.post [0,1,2,6] []
 (.block 2
 (.keep [0,1,2,6,7] []
 (.loop
 (.post [0,1,2,6,7] []
 (.seq
 (.seq
 (.regd [] [oo 16 (.mov (ot 7)),
 oo 17 (.mov (ot 1)),
 oo 18 (.cmp .gtr (ot 16) (ot 17)),
 oo 19 (.mov (ot 18)),
 ⟨some 20,.mov (ot 0),some (19,true)⟩,
 ⟨some 21,.mov (ot 7),some (19,true)⟩,
 ⟨some 22,.ixa 1 (ot 20) (ot 21),some (19,true)⟩,
 ⟨some 23,.ld false 1 (ot 22),some (19,true)⟩,
 ⟨some 24,.mov (ot 0),some (19,true)⟩,
 ⟨some 25,.mov (ot 7),some (19,true)⟩,
 ⟨some 26,.arith .sub .i64 (ot 25) (.cst (.d (.int .i64 1))),some (19,true)⟩,
 ⟨some 27,.ixa 1 (ot 24) (ot 26),some (19,true)⟩,
 ⟨some 28,.ld false 1 (ot 27),some (19,true)⟩,
 ⟨some 29,.call 113 [(ot 23),(ot 28)],some (19,true)⟩,
 oo 30 (.pick (ot 19) (ot 29) (.cst (.d (.bool false))))] [(0,1),(4,5),(4,8),(5,8),(6,8),(7,8),(4,9),(5,9),(6,9),(7,9),(8,9),(4,10),(5,10),(6,10),(7,10),(8,10),(4,11),(5,11),(6,11),(7,11),(4,12),(5,12),(6,12),(7,12)])
 (.cond (ot 30)
 .skip
 (.exit 2)))
 (.seq
 (.block 3
 (.regd [] [oo 33 (.mov (ot 0)),
 oo 34 (.mov (ot 7)),
 oo 35 (.mov (ot 0)),
 oo 36 (.mov (ot 7)),
 oo 37 (.arith .sub .i64 (ot 36) (.cst (.d (.int .i64 1)))),
 oo 38 (.mov (ot 0)),
 oo 39 (.mov (ot 7)),
 oo 40 (.arith .sub .i64 (ot 39) (.cst (.d (.int .i64 1)))),
 oo 41 (.ixa 1 (ot 38) (ot 40)),
 oo 42 (.ld false 1 (ot 41)),
 oo 43 (.mov (ot 0)),
 oo 44 (.mov (ot 7)),
 oo 45 (.ixa 1 (ot 43) (ot 44)),
 oo 46 (.ld false 1 (ot 45)),
 oo 47 (.ixa 1 (ot 33) (ot 34)),
 ⟨none,.st 1 (ot 47) (ot 42),none⟩,
 oo 48 (.ixa 1 (ot 35) (ot 37)),
 ⟨none,.st 1 (ot 48) (ot 46),none⟩] [(0,1),(0,2),(1,2),(0,3),(1,3),(2,3),(0,4),(1,4),(2,4),(0,5),(1,5),(2,5),(3,5),(4,5),(0,6),(1,6),(2,6),(3,6),(4,6),(5,6),(0,7),(1,7),(2,7),(3,7),(4,7),(5,7),(0,8),(1,8),(2,8),(3,8),(4,8),(0,9),(1,9),(2,9),(3,9),(4,9),(0,10),(1,10),(2,10),(3,10),(4,10),(5,10),(6,10),(7,10),(8,10),(9,10),(0,11),(1,11),(2,11),(3,11),(4,11),(5,11),(6,11),(7,11),(8,11),(9,11),(10,11),(0,12),(1,12),(2,12),(3,12),(4,12),(5,12),(6,12),(7,12),(8,12),(9,12),(0,13),(1,13),(2,13),(3,13),(4,13),(5,13),(6,13),(7,13),(8,13),(9,13),(2,14),(3,14),(4,14),(2,15),(3,15),(4,15)]))
 (.reg [] [oo 31 (.mov (ot 7)),
 oo 32 (.arith .sub .i64 (ot 31) (.cst (.d (.int .i64 1)))),
 oo 7 (.mov (ot 32))]))))))))))
 (.reg [] [oo 13 (.mov (ot 6)),
 oo 14 (.arith .add .i64 (ot 13) (.cst (.d (.int .i64 1)))),
 oo 6 (.mov (ot 14))])))))))))⟩
def tx113:AFun:=⟨17,40,[.tmp 4],
 (.seq
 (.reg [] [oo 4 (.mov (.cst (.d (.bool false))))])
 (.seq
 (.reg [] [oo 5 (.mov (ot 0)),
 oo 6 (.call 123 [(ot 5)]),
 oo 7 (.mov (ot 6)),
 ⟨some 8,.mov (ot 1),some (7,true)⟩,
 ⟨some 9,.call 123 [(ot 8)],some (7,true)⟩,
 ⟨some 10,.not (ot 9),some (7,true)⟩,
 oo 11 (.pick (ot 7) (ot 10) (.cst (.d (.bool false)))),
 oo 12 (.mov (ot 11)),
 ⟨some 13,.mov (ot 0),some (12,false)⟩,
 ⟨some 14,.mov (ot 1),some (12,false)⟩,
 ⟨some 15,.cmp .lss (ot 13) (ot 14),some (12,false)⟩,
 oo 16 (.pick (ot 12) (.cst (.d (.bool true))) (ot 15)),
 oo 4 (.mov (ot 16))])
 .ret))⟩
def tx116:AFun:=⟨19,40,[.tmp 2],
 (.seq
 (.reg [] [oo 2 (.mov (.cst (.d (.int .i64 0))))])
 (.seq
 (.seq
 (.reg [] [oo 3 (.mov (ot 0)),
 oo 4 (.cmp .geq (ot 3) (.cst (.d (.int .u32 65536))))])
 (.cond (ot 4)
 (.seq
 (.reg [] [oo 5 (.mov (ot 0)),
 oo 6 (.shf .shr .u32 (ot 5) (.cst (.d (.int .u64 16)))),
 oo 0 (.mov (ot 6))])
 (.reg [] [oo 2 (.mov (.cst (.d (.int .i64 16))))]))
 .skip))
 (.seq
 (.seq
 (.reg [] [oo 7 (.mov (ot 0)),
 oo 8 (.cmp .geq (ot 7) (.cst (.d (.int .u32 256))))])
 (.cond (ot 8)
 (.seq
 (.reg [] [oo 9 (.mov (ot 0)),
 oo 10 (.shf .shr .u32 (ot 9) (.cst (.d (.int .u64 8)))),
 oo 0 (.mov (ot 10))])
 (.reg [] [oo 11 (.mov (ot 2)),
 oo 12 (.arith .add .i64 (ot 11) (.cst (.d (.int .i64 8)))),
 oo 2 (.mov (ot 12))]))
 .skip))
 (.seq
 (.reg [] [oo 13 (.mov (ot 2)),
 oo 14 (.mov (ot 0)),
 oo 15 (.conv .u8 (ot 14)),
 oo 16 (.ixs (.cst (.d (.str [0,1,2,2,3,3,3,3,4,4,4,4,4,4,4,4,5,5,5,5,5,5,5,5,5,5,5,5,5,5,5,5,6,6,6,6,6,6,6,6,6,6,6,6,6,6,6,6,6,6,6,6,6,6,6,6,6,6,6,6,6,6,6,6,7,7,7,7,7,7,7,7,7,7,7,7,7,7,7,7,7,7,7,7,7,7,7,7,7,7,7,7,7,7,7,7,7,7,7,7,7,7,7,7,7,7,7,7,7,7,7,7,7,7,7,7,7,7,7,7,7,7,7,7,7,7,7,7,8,8,8,8,8,8,8,8,8,8,8,8,8,8,8,8,8,8,8,8,8,8,8,8,8,8,8,8,8,8,8,8,8,8,8,8,8,8,8,8,8,8,8,8,8,8,8,8,8,8,8,8,8,8,8,8,8,8,8,8,8,8,8,8,8,8,8,8,8,8,8,8,8,8,8,8,8,8,8,8,8,8,8,8,8,8,8,8,8,8,8,8,8,8,8,8,8,8,8,8,8,8,8,8,8,8,8,8,8,8,8,8,8,8,8,8,8,8,8,8,8,8,8,8,8,8,8,8]))) (ot 15)),
 oo 17 (.conv .i64 (ot 16)),
 oo 18 (.arith .add .i64 (ot 13) (ot 17)),
 oo 2 (.mov (ot 18))])
 .ret))))⟩
def tx117:AFun:=⟨25,40,[.tmp 2],
 (.seq
 (.reg [] [oo 2 (.mov (.cst (.d (.int .i64 0))))])
 (.seq
 (.seq
 (.reg [] [oo 3 (.mov (ot 0)),
 oo 4 (.cmp .geq (ot 3) (.cst (.d (.int .u64 4294967296))))])
 (.cond (ot 4)
 (.seq
 (.reg [] [oo 5 (.mov (ot 0)),
 oo 6 (.shf .shr .u64 (ot 5) (.cst (.d (.int .u64 32)))),
 oo 0 (.mov (ot 6))])
 (.reg [] [oo 2 (.mov (.cst (.d (.int .i64 32))))]))
 .skip))
 (.seq
 (.seq
 (.reg [] [oo 7 (.mov (ot 0)),
 oo 8 (.cmp .geq (ot 7) (.cst (.d (.int .u64 65536))))])
 (.cond (ot 8)
 (.seq
 (.reg [] [oo 9 (.mov (ot 0)),
 oo 10 (.shf .shr .u64 (ot 9) (.cst (.d (.int .u64 16)))),
 oo 0 (.mov (ot 10))])
 (.reg [] [oo 11 (.mov (ot 2)),
 oo 12 (.arith .add .i64 (ot 11) (.cst (.d (.int .i64 16)))),
 oo 2 (.mov (ot 12))]))
 .skip))
 (.seq
 (.seq
 (.reg [] [oo 13 (.mov (ot 0)),
 oo 14 (.cmp .geq (ot 13) (.cst (.d (.int .u64 256))))])
 (.cond (ot 14)
 (.seq
 (.reg [] [oo 15 (.mov (ot 0)),
 oo 16 (.shf .shr .u64 (ot 15) (.cst (.d (.int .u64 8)))),
 oo 0 (.mov (ot 16))])
 (.reg [] [oo 17 (.mov (ot 2)),
 oo 18 (.arith .add .i64 (ot 17) (.cst (.d (.int .i64 8)))),
 oo 2 (.mov (ot 18))]))
 .skip))
 (.seq
 (.reg [] [oo 19 (.mov (ot 2)),
 oo 20 (.mov (ot 0)),
 oo 21 (.conv .u8 (ot 20)),
 oo 22 (.ixs (.cst (.d (.str [0,1,2,2,3,3,3,3,4,4,4,4,4,4,4,4,5,5,5,5,5,5,5,5,5,5,5,5,5,5,5,5,6,6,6,6,6,6,6,6,6,6,6,6,6,6,6,6,6,6,6,6,6,6,6,6,6,6,6,6,6,6,6,6,7,7,7,7,7,7,7,7,7,7,7,7,7,7,7,7,7,7,7,7,7,7,7,7,7,7,7,7,7,7,7,7,7,7,7,7,7,7,7,7,7,7,7,7,7,7,7,7,7,7,7,7,7,7,7,7,7,7,7,7,7,7,7,7,8,8,8,8,8,8,8,8,8,8,8,8,8,8,8,8,8,8,8,8,8,8,8,8,8,8,8,8,8,8,8,8,8,8,8,8,8,8,8,8,8,8,8,8,8,8,8,8,8,8,8,8,8,8,8,8,8,8,8,8,8,8,8,8,8,8,8,8,8,8,8,8,8,8,8,8,8,8,8,8,8,8,8,8,8,8,8,8,8,8,8,8,8,8,8,8,8,8,8,8,8,8,8,8,8,8,8,8,8,8,8,8,8,8,8,8,8,8,8,8,8,8,8,8,8,8,8,8]))) (ot 21)),
 oo 23 (.conv .i64 (ot 22)),
 oo 24 (.arith .add .i64 (ot 19) (ot 23)),
 oo 2 (.mov (ot 24))])
 .ret)))))⟩
def tx123:AFun:=⟨6,40,[.tmp 2],
 (.seq
 (.reg [] [oo 2 (.mov (.cst (.d (.bool false))))])
 (.seq
 (.reg [] [oo 3 (.mov (ot 0)),
 oo 4 (.mov (ot 0)),
 oo 5 (.cmp .neq (ot 3) (ot 4)),
 oo 2 (.mov (ot 5))])
 .ret))⟩
def tabo:TabL:=[
(6,10,tx6),
(19,3,tx19),
(20,3,tx20),
(21,10,tx21),
(22,6,tx22),
(23,3,tx23),
(24,8,tx24),
(25,0,tx25),
(33,0,tx33),
(37,0,tx37),
(51,2,tx51),
(52,3,tx52),
(53,4,tx53),
(54,2,tx54),
(55,1,tx55),
(56,3,tx56),
(57,4,tx57),
(58,1,tx58),
(59,3,tx59),
(60,3,tx60),
(61,3,tx61),
(62,8,tx62),
(63,3,tx63),
(64,1,tx64),
(73,0,tx73),
(82,2,tx82),
(83,1,tx83),
(84,0,tx84),
(85,0,tx85),
(86,2,tx86),
(87,0,tx87),
(88,1,tx88),
(89,0,tx89),
(90,2,tx90),
(91,0,tx91),
(103,0,tx103),
(104,0,tx104),
(107,0,tx107),
(113,0,tx113),
(116,0,tx116),
(117,0,tx117),
(123,0,tx123)]
theorem tabo_chk:chkT Tryz.prog tabo=true:=by kernel_rfl
end Vc
