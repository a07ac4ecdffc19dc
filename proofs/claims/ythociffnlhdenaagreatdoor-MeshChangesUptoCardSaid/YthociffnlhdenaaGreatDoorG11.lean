import Derived.Test.YthociffnlhdenaaGreatDoorG10
import Derived.Test.YthociffnlhdenaaGreatDoorG04
set_option linter.unusedSectionVars false
set_option linter.unusedVariables false
set_option linter.unusedSimpArgs false
set_option maxRecDepth 10000
namespace Vc
open Go Go.Proofs
def En.d (x:En):Data:=.agg [.int .i64 x.nu,.int .i64 x.di,.int .i64 x.ne]
def ens (l:List En):List Data:=l.map En.d
theorem ens_len (l:List En):(ens l).length=l.length:=List.length_map _
theorem ens_at {ls:List En} {k:Nat} {l:En} (h:ls[k]?=some l):(ens ls)[(k:Int).toNat]?=some (.agg [.int .i64 l.nu,.int .i64 l.di,.int .i64 l.ne]):=by simp [ens,h,En.d]
theorem ens_atI {ls:List En} {k:Int} {l:En} (h:ls[k.toNat]?=some l):(ens ls)[k.toNat]?=some (.agg [.int .i64 l.nu,.int .i64 l.di,.int .i64 l.ne]):=by simp [ens,h,En.d]
structure Sts where
 co:Int
 nu:Int
 es:List En
def Sts.d (s:Sts):Data:=.agg [.int .i64 s.co,.int .i64 s.nu,.slice 3 (ens s.es)]
def ir30:AFun:=⟨13,1,[.tmp 2],
 (.seq
 (.reg [0] [⟨some 1,.cbx 0 3 (.tmp 0),none⟩,
 ⟨some 2,.mov (.cst (.d (.bool false))),none⟩])
 (.seq
 (.reg [] [⟨some 3,.fad 2 (.tmp 1),none⟩,
 ⟨some 4,.ld false 1 (.tmp 3),none⟩,
 ⟨some 5,.len (.tmp 4),none⟩,
 ⟨some 6,.cmp .leq (.tmp 5) (.cst (.d (.int .i64 9))),none⟩,
 ⟨some 7,.mov (.tmp 6),none⟩,
 ⟨some 8,.fad 2 (.tmp 1),some (7,false)⟩,
 ⟨some 9,.ld false 1 (.tmp 8),some (7,false)⟩,
 ⟨some 10,.len (.tmp 9),some (7,false)⟩,
 ⟨some 11,.cmp .eql (.tmp 10) (.cst (.d (.int .i64 33))),some (7,false)⟩,
 ⟨some 12,.pick (.tmp 7) (.cst (.d (.bool true))) (.tmp 11),none⟩,
 ⟨some 2,.mov (.tmp 12),none⟩])
 .ret))⟩
def ir33:AFun:=⟨26,6,[.cell 2 3 true],
 (.seq
 (.reg [0,1] [⟨some 1,.cbx 0 3 (.tmp 0),none⟩,
 ⟨some 2,.alloc 1 [(.d (.int .i64 0)),(.d (.int .i64 0)),(.nils 3)],none⟩])
 (.seq
 (.reg [2] [⟨some 6,.fad 0 (.tmp 1),none⟩,
 ⟨some 7,.ld false 1 (.tmp 6),none⟩,
 ⟨some 8,.fad 1 (.tmp 1),none⟩,
 ⟨some 9,.ld false 1 (.tmp 8),none⟩,
 ⟨some 10,.build [(.d (.int .i64 0)),(.d (.int .i64 0)),(.nils 3)] [(0,1,(.tmp 7)),(1,1,(.tmp 9))],none⟩,
 ⟨some 3,.alloc 2 [(.d (.int .i64 0)),(.d (.int .i64 0)),(.nils 3)],none⟩,
 ⟨none,.st 3 (.tmp 3) (.tmp 10),none⟩])
 (.seq
 (.seq
 (.reg [] [⟨some 11,.fad 2 (.tmp 1),none⟩,
 ⟨some 12,.ld false 1 (.tmp 11),none⟩,
 ⟨some 13,.len (.tmp 12),none⟩,
 ⟨some 14,.mov (.cst (.d (.int .i64 0))),none⟩])
 (.post [2,3] [0,1,2,3,4,5]
 (.block 0
 (.keep [2,3,12,13,14] [0,1,2]
 (.loop
 (.post [2,3,12,13,14] [3,4,5]
 (.seq
 (.reg [] [⟨some 15,.cmp .lss (.tmp 14) (.tmp 13),none⟩])
 (.seq
 (.cond (.tmp 15)
 .skip
 (.exit 0))
 (.seq
 (.block 1
 (.seq
 (.reg [3] [⟨some 16,.ixa 3 (.tmp 12) (.tmp 14),none⟩,
 ⟨some 17,.ld true 3 (.tmp 16),none⟩,
 ⟨some 5,.alloc 3 [(.d (.int .i64 0)),(.d (.int .i64 0)),(.d (.int .i64 0))],none⟩,
 ⟨none,.st 3 (.tmp 5) (.tmp 17),none⟩])
 (.reg [4,5] [⟨some 18,.fad 2 (.tmp 3),none⟩,
 ⟨some 19,.ld false 1 (.tmp 18),none⟩,
 ⟨some 20,.ld true 3 (.tmp 5),none⟩,
 ⟨some 21,.bsl 4 105 3 1 [(.agg [(.int .i64 0),(.int .i64 0),(.int .i64 0)])] [(0,(.tmp 20))],none⟩,
 ⟨some 22,.app 5 105 3 24 (.tmp 19) (.tmp 21),none⟩,
 ⟨some 23,.fad 2 (.tmp 3),none⟩,
 ⟨none,.st 1 (.tmp 23) (.tmp 22),none⟩])))
 (.reg [] [⟨some 24,.arith .add .i64 (.tmp 14) (.cst (.d (.int .i64 1))),none⟩,
 ⟨some 14,.mov (.tmp 24),none⟩]))))))))))
 (.seq
 (.reg [] [⟨some 25,.ld true 3 (.tmp 3),none⟩,
 ⟨none,.st 3 (.tmp 2) (.tmp 25),none⟩])
 .ret))))⟩
def ir59:AFun:=⟨26,6,[.cell 2 3 true],
 (.seq
 (.reg [0,1] [⟨some 1,.cbx 0 3 (.tmp 0),none⟩,
 ⟨some 2,.alloc 1 [(.d (.int .i64 0)),(.d (.int .i64 0)),(.nils 3)],none⟩])
 (.seq
 (.reg [2] [⟨some 6,.fad 0 (.tmp 1),none⟩,
 ⟨some 7,.ld false 1 (.tmp 6),none⟩,
 ⟨some 8,.fad 1 (.tmp 1),none⟩,
 ⟨some 9,.ld false 1 (.tmp 8),none⟩,
 ⟨some 10,.build [(.d (.int .i64 0)),(.d (.int .i64 0)),(.nils 3)] [(0,1,(.tmp 7)),(1,1,(.tmp 9))],none⟩,
 ⟨some 3,.alloc 2 [(.d (.int .i64 0)),(.d (.int .i64 0)),(.nils 3)],none⟩,
 ⟨none,.st 3 (.tmp 3) (.tmp 10),none⟩])
 (.seq
 (.seq
 (.reg [] [⟨some 11,.fad 2 (.tmp 1),none⟩,
 ⟨some 12,.ld false 1 (.tmp 11),none⟩,
 ⟨some 13,.len (.tmp 12),none⟩,
 ⟨some 14,.mov (.cst (.d (.int .i64 0))),none⟩])
 (.post [2,3] [0,1,2,3,4,5]
 (.block 0
 (.keep [2,3,12,13,14] [0,1,2]
 (.loop
 (.post [2,3,12,13,14] [3,4,5]
 (.seq
 (.reg [] [⟨some 15,.cmp .lss (.tmp 14) (.tmp 13),none⟩])
 (.seq
 (.cond (.tmp 15)
 .skip
 (.exit 0))
 (.seq
 (.block 1
 (.seq
 (.reg [3] [⟨some 16,.ixa 3 (.tmp 12) (.tmp 14),none⟩,
 ⟨some 17,.ld true 3 (.tmp 16),none⟩,
 ⟨some 5,.alloc 3 [(.d (.int .i64 0)),(.d (.int .i64 0)),(.d (.int .i64 0))],none⟩,
 ⟨none,.st 3 (.tmp 5) (.tmp 17),none⟩])
 (.reg [4,5] [⟨some 18,.fad 2 (.tmp 3),none⟩,
 ⟨some 19,.ld false 1 (.tmp 18),none⟩,
 ⟨some 20,.ld true 3 (.tmp 5),none⟩,
 ⟨some 21,.bsl 4 106 3 1 [(.agg [(.int .i64 0),(.int .i64 0),(.int .i64 0)])] [(0,(.tmp 20))],none⟩,
 ⟨some 22,.app 5 106 3 24 (.tmp 19) (.tmp 21),none⟩,
 ⟨some 23,.fad 2 (.tmp 3),none⟩,
 ⟨none,.st 1 (.tmp 23) (.tmp 22),none⟩])))
 (.reg [] [⟨some 24,.arith .add .i64 (.tmp 14) (.cst (.d (.int .i64 1))),none⟩,
 ⟨some 14,.mov (.tmp 24),none⟩]))))))))))
 (.seq
 (.reg [] [⟨some 25,.ld true 3 (.tmp 3),none⟩,
 ⟨none,.st 3 (.tmp 2) (.tmp 25),none⟩])
 .ret))))⟩
def ir99:AFun:=⟨18,3,[.cell 2 3 true],
 (.seq
 (.reg [0,1] [⟨some 1,.cbx 0 3 (.tmp 0),none⟩,
 ⟨some 2,.alloc 1 [(.d (.int .i64 0)),(.d (.int .i64 0)),(.nils 3)],none⟩])
 (.seq
 (.reg [2] [⟨some 4,.fad 2 (.tmp 1),none⟩,
 ⟨some 5,.ld false 1 (.tmp 4),none⟩,
 ⟨some 6,.len (.tmp 5),none⟩,
 ⟨some 7,.msl 2 105 3 24 (.agg [(.int .i64 0),(.int .i64 0),(.int .i64 0)]) (.tmp 6),none⟩,
 ⟨some 3,.mov (.tmp 7),none⟩])
 (.seq
 (.reg [] [⟨some 8,.mov (.tmp 3),none⟩,
 ⟨some 9,.fad 2 (.tmp 1),none⟩,
 ⟨some 10,.ld false 1 (.tmp 9),none⟩,
 ⟨some 11,.copy 3 (.tmp 8) (.tmp 10),none⟩])
 (.seq
 (.reg [] [⟨some 12,.fad 0 (.tmp 1),none⟩,
 ⟨some 13,.ld false 1 (.tmp 12),none⟩,
 ⟨some 14,.fad 1 (.tmp 1),none⟩,
 ⟨some 15,.ld false 1 (.tmp 14),none⟩,
 ⟨some 16,.mov (.tmp 3),none⟩,
 ⟨some 17,.build [(.d (.int .i64 0)),(.d (.int .i64 0)),(.nils 3)] [(0,1,(.tmp 13)),(1,1,(.tmp 15)),(2,1,(.tmp 16))],none⟩,
 ⟨none,.st 3 (.tmp 2) (.tmp 17),none⟩])
 .ret))))⟩
def ir103:AFun:=⟨9,4,[.cell 2 3 true],
 (.seq
 (.reg [0,1] [⟨some 1,.box 0 3 (.tmp 0),none⟩,
 ⟨some 2,.alloc 1 [(.d (.int .i64 0)),(.d (.int .i64 0)),(.nils 3)],none⟩])
 (.seq
 (.reg [2,3] [⟨some 3,.bsl 2 106 3 0 [] [],none⟩,
 ⟨some 4,.fad 2 (.tmp 1),none⟩,
 ⟨some 5,.ld false 1 (.tmp 4),none⟩,
 ⟨some 6,.app 3 106 3 24 (.tmp 3) (.tmp 5),none⟩,
 ⟨some 7,.fad 2 (.tmp 1),none⟩,
 ⟨none,.st 1 (.tmp 7) (.tmp 6),none⟩])
 (.seq
 (.reg [] [⟨some 8,.ld true 3 (.tmp 1),none⟩,
 ⟨none,.st 3 (.tmp 2) (.tmp 8),none⟩])
 .ret)))⟩
def ir102:AFun:=⟨54,4,[.tmp 6],
 (.seq
 (.reg [0,1] [⟨some 3,.cbx 0 2 (.tmp 0),none⟩,
 ⟨some 4,.cbx 1 3 (.tmp 1),none⟩,
 ⟨some 6,.mov (.cst (.d (.bool false))),none⟩])
 (.seq
 (.reg [2] [⟨some 9,.fad 2 (.tmp 4),none⟩,
 ⟨some 10,.ld false 1 (.tmp 9),none⟩,
 ⟨some 11,.mov (.tmp 2),none⟩,
 ⟨some 12,.ixa 3 (.tmp 10) (.tmp 11),none⟩,
 ⟨some 13,.ld true 3 (.tmp 12),none⟩,
 ⟨some 7,.alloc 2 [(.d (.int .i64 0)),(.d (.int .i64 0)),(.d (.int .i64 0))],none⟩,
 ⟨none,.st 3 (.tmp 7) (.tmp 13),none⟩])
 (.seq
 (.seq
 (.reg [] [⟨some 14,.mov (.tmp 2),none⟩,
 ⟨some 15,.fad 0 (.tmp 4),none⟩,
 ⟨some 16,.ld false 1 (.tmp 15),none⟩,
 ⟨some 17,.cmp .eql (.tmp 14) (.tmp 16),none⟩,
 ⟨some 18,.mov (.tmp 17),none⟩,
 ⟨some 19,.fad 2 (.tmp 7),some (18,false)⟩,
 ⟨some 20,.ld false 1 (.tmp 19),some (18,false)⟩,
 ⟨some 21,.cmp .lss (.tmp 20) (.cst (.d (.int .i64 0))),some (18,false)⟩,
 ⟨some 22,.pick (.tmp 18) (.cst (.d (.bool true))) (.tmp 21),none⟩])
 (.cond (.tmp 22)
 (.seq
 (.reg [] [⟨some 6,.mov (.cst (.d (.bool true))),none⟩])
 .ret)
 .skip))
 (.seq
 (.reg [3] [⟨some 23,.fad 2 (.tmp 4),none⟩,
 ⟨some 24,.ld false 1 (.tmp 23),none⟩,
 ⟨some 25,.fad 2 (.tmp 7),none⟩,
 ⟨some 26,.ld false 1 (.tmp 25),none⟩,
 ⟨some 27,.ixa 3 (.tmp 24) (.tmp 26),none⟩,
 ⟨some 28,.ld true 3 (.tmp 27),none⟩,
 ⟨some 8,.alloc 3 [(.d (.int .i64 0)),(.d (.int .i64 0)),(.d (.int .i64 0))],none⟩,
 ⟨none,.st 3 (.tmp 8) (.tmp 28),none⟩])
 (.seq
 (.regd [] [⟨some 29,.fad 0 (.tmp 8),none⟩,
 ⟨some 30,.ld false 1 (.tmp 29),none⟩,
 ⟨some 31,.fad 0 (.tmp 7),none⟩,
 ⟨some 32,.ld false 1 (.tmp 31),none⟩,
 ⟨some 33,.cmp .gtr (.tmp 30) (.tmp 32),none⟩,
 ⟨some 34,.mov (.tmp 33),none⟩,
 ⟨some 35,.fad 0 (.tmp 8),some (34,false)⟩,
 ⟨some 36,.ld false 1 (.tmp 35),some (34,false)⟩,
 ⟨some 37,.fad 0 (.tmp 7),some (34,false)⟩,
 ⟨some 38,.ld false 1 (.tmp 37),some (34,false)⟩,
 ⟨some 39,.cmp .eql (.tmp 36) (.tmp 38),some (34,false)⟩,
 ⟨some 40,.mov (.tmp 39),some (34,false)⟩,
 ⟨some 41,.fad 1 (.tmp 8),some (40,true)⟩,
 ⟨some 42,.ld false 1 (.tmp 41),some (40,true)⟩,
 ⟨some 43,.ld true 2 (.tmp 3),some (40,true)⟩,
 ⟨some 44,.mov (.tmp 2),some (40,true)⟩,
 ⟨some 45,.fad 2 (.tmp 7),some (40,true)⟩,
 ⟨some 46,.ld false 1 (.tmp 45),some (40,true)⟩,
 ⟨some 47,.call 67 [(.tmp 43),(.tmp 44),(.tmp 46)],some (40,true)⟩,
 ⟨some 48,.arith .add .i64 (.tmp 42) (.tmp 47),some (40,true)⟩,
 ⟨some 49,.fad 1 (.tmp 7),some (40,true)⟩,
 ⟨some 50,.ld false 1 (.tmp 49),some (40,true)⟩,
 ⟨some 51,.cmp .leq (.tmp 48) (.tmp 50),some (40,true)⟩,
 ⟨some 52,.pick (.tmp 40) (.tmp 51) (.cst (.d (.bool false))),some (34,false)⟩,
 ⟨some 53,.pick (.tmp 34) (.cst (.d (.bool true))) (.tmp 52),none⟩,
 ⟨some 6,.mov (.tmp 53),none⟩] [(0,2),(1,2),(0,3),(1,3),(6,8),(7,8),(6,9),(7,9),(12,14),(13,14),(12,15),(13,15),(14,15),(12,16),(13,16),(14,16),(15,16),(12,17),(13,17),(14,17),(15,17),(12,18),(13,18),(12,20),(13,20),(14,20),(15,20),(16,20),(17,20),(18,20),(19,20),(12,21),(13,21),(14,21),(15,21),(16,21),(17,21),(18,21),(19,21)])
 .ret)))))⟩
def ir106:AFun:=⟨54,4,[.tmp 6],
 (.seq
 (.reg [0,1] [⟨some 3,.cbx 0 3 (.tmp 0),none⟩,
 ⟨some 4,.cbx 1 2 (.tmp 1),none⟩,
 ⟨some 6,.mov (.cst (.d (.bool false))),none⟩])
 (.seq
 (.reg [2] [⟨some 9,.fad 2 (.tmp 3),none⟩,
 ⟨some 10,.ld false 1 (.tmp 9),none⟩,
 ⟨some 11,.mov (.tmp 2),none⟩,
 ⟨some 12,.ixa 3 (.tmp 10) (.tmp 11),none⟩,
 ⟨some 13,.ld true 3 (.tmp 12),none⟩,
 ⟨some 7,.alloc 2 [(.d (.int .i64 0)),(.d (.int .i64 0)),(.d (.int .i64 0))],none⟩,
 ⟨none,.st 3 (.tmp 7) (.tmp 13),none⟩])
 (.seq
 (.seq
 (.reg [] [⟨some 14,.mov (.tmp 2),none⟩,
 ⟨some 15,.fad 0 (.tmp 3),none⟩,
 ⟨some 16,.ld false 1 (.tmp 15),none⟩,
 ⟨some 17,.cmp .eql (.tmp 14) (.tmp 16),none⟩,
 ⟨some 18,.mov (.tmp 17),none⟩,
 ⟨some 19,.fad 2 (.tmp 7),some (18,false)⟩,
 ⟨some 20,.ld false 1 (.tmp 19),some (18,false)⟩,
 ⟨some 21,.cmp .eql (.tmp 20) (.cst (.d (.int .i64 (-1)))),some (18,false)⟩,
 ⟨some 22,.pick (.tmp 18) (.cst (.d (.bool true))) (.tmp 21),none⟩])
 (.cond (.tmp 22)
 (.seq
 (.reg [] [⟨some 6,.mov (.cst (.d (.bool true))),none⟩])
 .ret)
 .skip))
 (.seq
 (.reg [3] [⟨some 23,.fad 2 (.tmp 3),none⟩,
 ⟨some 24,.ld false 1 (.tmp 23),none⟩,
 ⟨some 25,.fad 2 (.tmp 7),none⟩,
 ⟨some 26,.ld false 1 (.tmp 25),none⟩,
 ⟨some 27,.ixa 3 (.tmp 24) (.tmp 26),none⟩,
 ⟨some 28,.ld true 3 (.tmp 27),none⟩,
 ⟨some 8,.alloc 3 [(.d (.int .i64 0)),(.d (.int .i64 0)),(.d (.int .i64 0))],none⟩,
 ⟨none,.st 3 (.tmp 8) (.tmp 28),none⟩])
 (.seq
 (.regd [] [⟨some 29,.fad 0 (.tmp 8),none⟩,
 ⟨some 30,.ld false 1 (.tmp 29),none⟩,
 ⟨some 31,.fad 0 (.tmp 7),none⟩,
 ⟨some 32,.ld false 1 (.tmp 31),none⟩,
 ⟨some 33,.cmp .gtr (.tmp 30) (.tmp 32),none⟩,
 ⟨some 34,.mov (.tmp 33),none⟩,
 ⟨some 35,.fad 0 (.tmp 8),some (34,false)⟩,
 ⟨some 36,.ld false 1 (.tmp 35),some (34,false)⟩,
 ⟨some 37,.fad 0 (.tmp 7),some (34,false)⟩,
 ⟨some 38,.ld false 1 (.tmp 37),some (34,false)⟩,
 ⟨some 39,.cmp .eql (.tmp 36) (.tmp 38),some (34,false)⟩,
 ⟨some 40,.mov (.tmp 39),some (34,false)⟩,
 ⟨some 41,.fad 1 (.tmp 8),some (40,true)⟩,
 ⟨some 42,.ld false 1 (.tmp 41),some (40,true)⟩,
 ⟨some 43,.ld true 2 (.tmp 4),some (40,true)⟩,
 ⟨some 44,.mov (.tmp 2),some (40,true)⟩,
 ⟨some 45,.fad 2 (.tmp 7),some (40,true)⟩,
 ⟨some 46,.ld false 1 (.tmp 45),some (40,true)⟩,
 ⟨some 47,.call 91 [(.tmp 43),(.tmp 44),(.tmp 46)],some (40,true)⟩,
 ⟨some 48,.arith .add .i64 (.tmp 42) (.tmp 47),some (40,true)⟩,
 ⟨some 49,.fad 1 (.tmp 7),some (40,true)⟩,
 ⟨some 50,.ld false 1 (.tmp 49),some (40,true)⟩,
 ⟨some 51,.cmp .leq (.tmp 48) (.tmp 50),some (40,true)⟩,
 ⟨some 52,.pick (.tmp 40) (.tmp 51) (.cst (.d (.bool false))),some (34,false)⟩,
 ⟨some 53,.pick (.tmp 34) (.cst (.d (.bool true))) (.tmp 52),none⟩,
 ⟨some 6,.mov (.tmp 53),none⟩] [(0,2),(1,2),(0,3),(1,3),(6,8),(7,8),(6,9),(7,9),(12,14),(13,14),(12,15),(13,15),(14,15),(12,16),(13,16),(14,16),(15,16),(12,17),(13,17),(14,17),(15,17),(12,18),(13,18),(12,20),(13,20),(14,20),(15,20),(16,20),(17,20),(18,20),(19,20),(12,21),(13,21),(14,21),(15,21),(16,21),(17,21),(18,21),(19,21)])
 .ret)))))⟩
theorem c30 (s:Sts):CallDet Tryz.prog 30 [.d s.d] [.bool (decide ((s.es.length:Int)≤9)||((s.es.length:Int)==33))]:=by
 have hl:=ens_len s.es
 have fin:∀ v,(decide ((s.es.length:Int)≤9)||((s.es.length:Int)==33))=v→resV [.bool v]=resV [.bool (decide ((s.es.length:Int)≤9)||((s.es.length:Int)==33))]:=fun v h=>by rw [h]
 refine call_of_vc (x:=ir30) (by kernel_rfl) rfl ?_
 refine sd ?_
 refine b_le (fun t1=>?_) (fun t1=>?_)
 refine sd ?_
 rotate_left
 refine sd ?_
 rotate_left
 ·refine fin _ ?_
  rw [← hl,decide_eq_true t1]; rfl
 ·refine fin _ ?_
  rw [← hl,decide_eq_false t1]; rfl
theorem c99 (s:Sts) (hn:s.es.length≤1048576):CallDet Tryz.prog 99 [.d s.d] [s.d]:=by
 have hl:=ens_len s.es
 have fin:∀ X,X=ens s.es→resV [.agg [.int .i64 s.co,.int .i64 s.nu,.slice 3 X]]=resV [s.d]:=fun X h=>by rw [h]; rfl
 refine call_of_vc (x:=ir99) (by kernel_rfl) rfl ?_
 refine an ?_ ?_
 refine an ?_ ?_
 (show (0:Int)≤(↑(List.length (ens (Sts.es s))):Int); omega)
 refine an ?_ ?_
 (show (↑(List.length (ens (Sts.es s))):Int) * (↑(24:Nat):Int)≤(2:Int) ^ (47:Nat); omega)
 (show (↑(List.length (ens (Sts.es s))):Int)≤(2:Int) ^ (47:Nat); omega)
 refine ca (And.intro rfl (And.intro rfl (And.intro ?_ rfl))) ?_
 focus (show List.length (List.replicate (List.length (ens (Sts.es s))) (Data.agg [Data.int IntKind.i64 (0:Int),Data.int IntKind.i64 (0:Int),Data.int IntKind.i64 (0:Int)]))=List.length (ens (Sts.es s)); simp only [List.length_replicate,List.length_set,List.length_append,List.length_take,List.length_drop]; done)
 refine an ?_ ?_
 (show List.length (List.take (List.length (ens (Sts.es s))) (ens (Sts.es s))++List.drop (List.length (ens (Sts.es s))) (List.replicate (List.length (ens (Sts.es s))) (Data.agg [Data.int IntKind.i64 (0:Int),Data.int IntKind.i64 (0:Int),Data.int IntKind.i64 (0:Int)])))=List.length (ens (Sts.es s)); simp only [List.length_replicate,List.length_set,List.length_append,List.length_take,List.length_drop]; omega)
 refine an ?_ ?_
 (show List.length (List.take (List.length (ens (Sts.es s))) (ens (Sts.es s))++List.drop (List.length (ens (Sts.es s))) (List.replicate (List.length (ens (Sts.es s))) (Data.agg [Data.int IntKind.i64 (0:Int),Data.int IntKind.i64 (0:Int),Data.int IntKind.i64 (0:Int)])))=List.length (ens (Sts.es s)); simp only [List.length_replicate,List.length_set,List.length_append,List.length_take,List.length_drop]; omega)
 rotate_left
 refine fin _ ?_
 show List.take (ens s.es).length (ens s.es)++List.drop (ens s.es).length (List.replicate (ens s.es).length _)=ens s.es
 rw [List.take_length,List.drop_eq_nil_of_le (by rw [List.length_replicate]; exact Nat.le_refl _),List.append_nil]
theorem c103 (s:Sts) (hn:s.es.length≤1048576):CallDet Tryz.prog 103 [.d s.d] [s.d]:=by
 have hl:=ens_len s.es
 refine call_of_vc (x:=ir103) (by kernel_rfl) rfl ?_
 refine sd ?_
 refine sd ?_
 refine an ?_ ?_
 refine an ?_ ?_
 exact rfl
 refine an ?_ ?_
 exact rfl
 refine an ?_ ?_
 exact rfl
 refine an ?_ ?_
 (show ((0:Nat)+List.length (ens (Sts.es s))) * (24:Nat)≤(2:Nat) ^ (47:Nat); omega)
 (show (0:Nat)+List.length (ens (Sts.es s))≤(2:Nat) ^ (47:Nat); omega)
 refine sd ?_
 refine sd ?_
 exact rfl
def ownV (s:Sts):Nat→List (Nat × AObj)
 | 0=>[]
 | k+1=>[(2,.box [.d (.int .i64 s.co),.d (.int .i64 s.nu),.sl 5 (ens (s.es.take (k+1))).length]),(5,.row 105 3 (ens (s.es.take (k+1))) false)]
theorem ens_snoc {l:List En} {k:Nat} {x:En} (h:l[k]?=some x):ens (l.take (k+1))=ens (l.take k)++[x.d]:=by rw [take_one h]; unfold ens; rw [List.map_append]; rfl
theorem c33 (s:Sts) (hn:s.es.length≤1048576):CallDet Tryz.prog 33 [.d s.d] [s.d]:=by
 have hl:=ens_len s.es
 refine call_of_vc (x:=ir33) (by kernel_rfl) rfl ?_
 rotate_left
 refine loop_u (fun k:Nat=>[(14,.d (.int .i64 k))]) (ownV s) (fun k=>k≤s.es.length) (fun k=>s.es.length - k) 0 rfl (Nat.zero_le _) ?_
 intro k hk
 have hk:k≤s.es.length:=hk
 have hx:k < s.es.length→∃ x,s.es[k]?=some x:=fun h=>get_lt _ h
 have fin:∀ X,X=ens s.es→resV [.agg [.int .i64 s.co,.int .i64 s.nu,.slice 3 X]]=resV [s.d]:=fun X h=>by rw [h]; rfl
 by_cases hkk:k < s.es.length
 ·refine Exists.elim (hx hkk) fun x hx=>?_
  have hxd:=ens_at hx
  have e:=ens_snoc hx
  have ht:=ens_len (s.es.take k)
  rw [List.length_take] at ht
  cases k with
  | zero =>
   refine sd ?_
   refine b_lt (fun t1=>?_) (fun t1=>?_)
   refine ix_at hxd ?_ ?_
   (show (0:Int)≤(↑(0:Nat):Int); omega)
   refine sd ?_
   refine sd ?_
   refine sd ?_
   refine an ?_ ?_
   refine an ?_ ?_
   (show (1:Nat) * (24:Nat)≤(2:Nat) ^ (47:Nat); omega)
   (show (1:Nat)≤(2:Nat) ^ (47:Nat); omega)
   refine sd ?_
   refine ar_add ?_ ?_
   refine an ?_ ?_
   (show (-9223372036854775808:Int)≤(↑(0:Nat):Int)+(1:Int); omega)
   (show (↑(0:Nat):Int)+(1:Int)≤(9223372036854775807:Int); omega)
   rotate_left
   (exfalso; omega)
   refine ⟨0+1,⟨by show 0+1≤s.es.length; omega,by show s.es.length - (0+1) < s.es.length - 0; omega⟩,?_⟩
   show _=St.upd _ _ [(2,.box [.d (.int .i64 s.co),.d (.int .i64 s.nu),.sl 5 (ens (s.es.take (0+1))).length]),(5,.row 105 3 (ens (s.es.take (0+1))) false)]
   rw [e]; rfl
  | succ k =>
   refine sd ?_
   refine b_lt (fun t1=>?_) (fun t1=>?_)
   refine ix_at hxd ?_ ?_
   (show (0:Int)≤(↑(k+(1:Nat)):Int); omega)
   refine sd ?_
   refine sd ?_
   refine sd ?_
   refine an ?_ ?_
   refine an ?_ ?_
   exact rfl
   refine an ?_ ?_
   exact rfl
   refine an ?_ ?_
   exact rfl
   refine an ?_ ?_
   (show (List.length (ens (List.take (k+(1:Nat)) (Sts.es s)))+(1:Nat)) * (24:Nat)≤(2:Nat) ^ (47:Nat); omega)
   (show List.length (ens (List.take (k+(1:Nat)) (Sts.es s)))+(1:Nat)≤(2:Nat) ^ (47:Nat); omega)
   refine sd ?_
   refine ar_add ?_ ?_
   refine an ?_ ?_
   (show (-9223372036854775808:Int)≤(↑(k+(1:Nat)):Int)+(1:Int); omega)
   (show (↑(k+(1:Nat)):Int)+(1:Int)≤(9223372036854775807:Int); omega)
   rotate_left
   (exfalso; omega)
   refine ⟨k+1+1,⟨by show k+1+1≤s.es.length; omega,by show s.es.length - (k+1+1) < s.es.length - (k+1); omega⟩,?_⟩
   show _=St.upd _ _ [(2,.box [.d (.int .i64 s.co),.d (.int .i64 s.nu),.sl 5 (ens (s.es.take (k+1+1))).length]),(5,.row 105 3 (ens (s.es.take (k+1+1))) false)]
   rw [e]; rfl
 ·have e:ens (s.es.take k)=ens s.es:=by rw [List.take_of_length_le (by omega)]
  cases k with
  | zero =>
   refine sd ?_
   refine b_lt (fun t1=>?_) (fun t1=>?_)
   (exfalso; omega)
   rotate_left
   exact fin _ e
  | succ k =>
   refine sd ?_
   refine b_lt (fun t1=>?_) (fun t1=>?_)
   (exfalso; omega)
   refine sd ?_
   rotate_left
   exact fin _ e
def Sts.at (s:Sts) (i:Int):En:=(s.es[i.toNat]?).getD ⟨0,0,0⟩
theorem Sts.at_get {s:Sts} {i:Nat} (h:i < s.es.length):s.es[i]?=some (s.at i):=by
 unfold Sts.at
 rw [show ((i:Int)).toNat=i from rfl,List.getElem?_eq_getElem h]; rfl
theorem Sts.at_getI {s:Sts} {i:Int} (h:i.toNat < s.es.length):s.es[i.toNat]?=some (s.at i):=by
 unfold Sts.at
 rw [List.getElem?_eq_getElem h]; rfl
def leads (m:Ms) (s:Sts) (n:Int) (x:En):Bool:=(n==s.co)||((x.ne==-1)||(decide (x.nu < (s.at x.ne).nu)||(((s.at x.ne).nu==x.nu)&&decide ((s.at x.ne).di+betw m.ls n x.ne≤x.di))))
theorem leads_1 {m:Ms} {s:Sts} {n:Int} {x:En} (h:n=s.co):leads m s n x=true:=by unfold leads; rw [h]; simp
theorem leads_2 {m:Ms} {s:Sts} {n:Int} {x:En} (h:x.ne=-1):leads m s n x=true:=by unfold leads; rw [h]; simp
theorem leads_3 {m:Ms} {s:Sts} {n:Int} {x:En} (h1:¬ n=s.co) (h2:¬ x.ne=-1):leads m s n x=(decide (x.nu < (s.at x.ne).nu)||(((s.at x.ne).nu==x.nu)&&decide ((s.at x.ne).di+betw m.ls n x.ne≤x.di))):=by
 unfold leads
 rw [show (n==s.co)=false by simpa using h1,show (x.ne==-1)=false by simpa using h2]; rfl
theorem c102 (m:Ms) (s:Sts) (n:Nat) (x:En) (hf:m.fine) (hx:s.es[n]?=some x) (hr:-1≤x.ne∧x.ne < (s.es.length:Int)) (hd:∀ y∈s.es,0≤y.di∧y.di≤3200):CallDet Tryz.prog 102 [.d m.d,.d s.d,.d (.int .i64 n)] [.bool (leads m s n x)]:=by
 have hl:=ens_len s.es
 have hx2:=ens_at hx
 have hlt:=hf.l128
 have hcr:=hf.rng n x.ne
 have fin:∀ v:Bool,leads m s n x=v→resV [.bool v]=resV [.bool (leads m s n x)]:=fun v h=>by rw [h]
 have hy:¬ x.ne < 0→(ens s.es)[x.ne.toNat]?=some (.agg [.int .i64 (s.at x.ne).nu,.int .i64 (s.at x.ne).di,.int .i64 (s.at x.ne).ne]):=fun h=>ens_atI (Sts.at_getI (by omega))
 have hyd:¬ x.ne < 0→0≤(s.at x.ne).di∧(s.at x.ne).di≤3200:=fun h=>hd _ (List.mem_of_getElem? (Sts.at_getI (s:=s) (i:=x.ne) (by omega)))
 refine call_of_vc (x:=ir102) (by kernel_rfl) rfl ?_
 refine ix_at hx2 ?_ ?_
 (show (0:Int)≤(↑n:Int); omega)
 refine sd ?_
 refine b_eq (fun t1=>?_) (fun t1=>?_)
 refine sd ?_
 rotate_left
 refine sd ?_
 refine b_lt (fun t2=>?_) (fun t2=>?_)
 rotate_left
 refine ix_at (hy (by omega)) ?_ ?_
 (show (0:Int)≤En.ne x; omega)
 refine sd ?_
 refine b_lt (fun t3=>?_) (fun t3=>?_)
 refine sd ?_
 rotate_left
 refine sd ?_
 refine b_eq (fun t4=>?_) (fun t4=>?_)
 refine ca (c67 m _ _ (by omega) hf.asc) ?_
 refine ar_add ?_ ?_
 refine an ?_ ?_
 (show (-9223372036854775808:Int)≤En.di (Sts.at s (En.ne x))+betw (Ms.ls m) (↑n:Int) (En.ne x); omega)
 (show En.di (Sts.at s (En.ne x))+betw (Ms.ls m) (↑n:Int) (En.ne x)≤(9223372036854775807:Int); omega)
 refine sd ?_
 rotate_left
 refine sd ?_
 rotate_left
 ·exact fin _ (leads_1 t1)
 ·exact fin _ (leads_2 (by omega))
 ·exact fin _ (by rw [leads_3 t1 (by omega),decide_eq_true t3]; rfl)
 ·exact fin _ (by rw [leads_3 t1 (by omega),decide_eq_false t3,t4,beq_self_eq_true]; rfl)
 ·exact fin _ (by rw [leads_3 t1 (by omega),decide_eq_false t3,show ((s.at x.ne).nu==x.nu)=false by simpa using t4]; rfl)
theorem c106 (m:Ms) (s:Sts) (n:Nat) (x:En) (hf:m.fine) (hx:s.es[n]?=some x) (hr:-1≤x.ne∧x.ne < (s.es.length:Int)) (hd:∀ y∈s.es,0≤y.di∧y.di≤3200):CallDet Tryz.prog 106 [.d s.d,.d m.d,.d (.int .i64 n)] [.bool (leads m s n x)]:=by
 have hl:=ens_len s.es
 have hx2:=ens_at hx
 have hlt:=hf.l128
 have hcr:=hf.rng n x.ne
 have fin:∀ v:Bool,leads m s n x=v→resV [.bool v]=resV [.bool (leads m s n x)]:=fun v h=>by rw [h]
 have hy:¬ x.ne=-1→(ens s.es)[x.ne.toNat]?=some (.agg [.int .i64 (s.at x.ne).nu,.int .i64 (s.at x.ne).di,.int .i64 (s.at x.ne).ne]):=fun h=>ens_atI (Sts.at_getI (by omega))
 have hyd:¬ x.ne=-1→0≤(s.at x.ne).di∧(s.at x.ne).di≤3200:=fun h=>hd _ (List.mem_of_getElem? (Sts.at_getI (s:=s) (i:=x.ne) (by omega)))
 refine call_of_vc (x:=ir106) (by kernel_rfl) rfl ?_
 refine ix_at hx2 ?_ ?_
 (show (0:Int)≤(↑n:Int); omega)
 refine sd ?_
 refine b_eq (fun t1=>?_) (fun t1=>?_)
 refine sd ?_
 rotate_left
 refine sd ?_
 refine b_eq (fun t2=>?_) (fun t2=>?_)
 rotate_left
 refine ix_at (hy (by omega)) ?_ ?_
 (show (0:Int)≤En.ne x; omega)
 refine sd ?_
 refine b_lt (fun t3=>?_) (fun t3=>?_)
 refine sd ?_
 rotate_left
 refine sd ?_
 refine b_eq (fun t4=>?_) (fun t4=>?_)
 refine ca (c91 m _ _ (by omega)) ?_
 refine ar_add ?_ ?_
 refine an ?_ ?_
 (show (-9223372036854775808:Int)≤En.di (Sts.at s (En.ne x))+betw (Ms.ls m) (↑n:Int) (En.ne x); omega)
 (show En.di (Sts.at s (En.ne x))+betw (Ms.ls m) (↑n:Int) (En.ne x)≤(9223372036854775807:Int); omega)
 refine sd ?_
 rotate_left
 refine sd ?_
 rotate_left
 ·exact fin _ (leads_1 t1)
 ·exact fin _ (leads_2 (by omega))
 ·exact fin _ (by rw [leads_3 t1 (by omega),decide_eq_true t3]; rfl)
 ·exact fin _ (by rw [leads_3 t1 (by omega),decide_eq_false t3,t4,beq_self_eq_true]; rfl)
 ·exact fin _ (by rw [leads_3 t1 (by omega),decide_eq_false t3,show ((s.at x.ne).nu==x.nu)=false by simpa using t4]; rfl)
end Vc
set_option maxRecDepth 10000
set_option maxHeartbeats 4000000
namespace Vc
open Go Go.Proofs
def prD (p:Int × Int):Data:=.agg [.int .i64 p.1,.int .i64 p.2]
def prs (l:List (Int × Int)):List Data:=l.map prD
theorem prs_len (l:List (Int × Int)):(prs l).length=l.length:=List.length_map _
theorem prs_at {l:List (Int × Int)} {k:Nat} {p:Int × Int} (h:l[k]?=some p):(prs l)[(k:Int).toNat]?=some (.agg [.int .i64 p.1,.int .i64 p.2]):=by simp [prs,h,prD]
def samP (p:Int × Int) (x y:Int):Bool:=(p.1==x)&&((p.2==y)&&true)
def lostB:List (Int × Int)→Int→Int→Bool
 | [],_,_=>false
 | p::r,x,y=>bif samP p x y then true else lostB r x y
def ixP:List (Int × Int)→Int→Int→Int→Int
 | [],_,_,_=>-1
 | p::r,x,y,k=>bif samP p x y then k else ixP r x y (k+1)
theorem ixP_ge (x y:Int):∀ (l:List (Int × Int)) (k:Int),0≤k→decide (0≤ixP l x y k)=lostB l x y
 | [],k,_=>rfl
 | p::r,k,hk=>by
  unfold ixP lostB
  cases samP p x y
  ·exact ixP_ge x y r (k+1) (by omega)
  ·exact decide_eq_true hk
theorem samP_sym (p:Int × Int) (x y:Int):((x==p.1)&&((y==p.2)&&true))=samP p x y:=by
 unfold samP
 rw [show (x==p.1)=(p.1==x) from Bool.eq_iff_iff.2 (by rw [beq_iff_eq,beq_iff_eq]; exact eq_comm),show (y==p.2)=(p.2==y) from Bool.eq_iff_iff.2 (by rw [beq_iff_eq,beq_iff_eq]; exact eq_comm)]
def ir107:AFun:=⟨12,1,[.tmp 4],
 (.seq
 (.reg [0] [⟨some 2,.cbx 0 2 (.tmp 0),none⟩,
 ⟨some 4,.mov (.cst (.d (.int .i64 0))),none⟩])
 (.seq
 (.seq
 (.reg [] [⟨some 5,.mov (.tmp 1),none⟩,
 ⟨some 6,.len (.tmp 5),none⟩,
 ⟨some 7,.cmp .gtr (.tmp 6) (.cst (.d (.int .i64 256))),none⟩])
 (.cond (.tmp 7)
 (.seq
 (.reg [] [⟨some 4,.mov (.cst (.d (.int .i64 5))),none⟩])
 .ret)
 .skip))
 (.seq
 (.reg [] [⟨some 8,.mov (.tmp 1),none⟩,
 ⟨some 9,.mkf (.func 146) [] [(.tmp 2)],none⟩,
 ⟨some 10,.call 145 [(.tmp 8),(.tmp 9)],none⟩,
 ⟨some 11,.call 86 [(.tmp 10)],none⟩,
 ⟨some 4,.mov (.tmp 11),none⟩])
 .ret)))⟩
def ir109:AFun:=⟨9,1,[.tmp 4],
 (.seq
 (.reg [0] [⟨some 3,.cbx 0 2 (.tmp 1),none⟩,
 ⟨some 4,.mov (.cst (.d (.bool false))),none⟩])
 (.seq
 (.reg [] [⟨some 5,.mov (.tmp 0),none⟩,
 ⟨some 6,.ld true 2 (.tmp 3),none⟩,
 ⟨some 7,.call 147 [(.tmp 5),(.tmp 6)],none⟩,
 ⟨some 8,.cmp .geq (.tmp 7) (.cst (.d (.int .i64 0))),none⟩,
 ⟨some 4,.mov (.tmp 8),none⟩])
 .ret))⟩
def ir145:AFun:=⟨22,3,[.tmp 4],
 (.seq
 (.reg [] [⟨some 4,.mov (.cst (.nils 1)),none⟩])
 (.seq
 (.reg [] [⟨some 5,.mov (.cst (.nils 1)),none⟩])
 (.seq
 (.seq
 (.reg [] [⟨some 8,.mov (.tmp 0),none⟩,
 ⟨some 9,.len (.tmp 8),none⟩,
 ⟨some 10,.mov (.cst (.d (.int .i64 0))),none⟩])
 (.post [5] [0,1,2]
 (.block 0
 (.asrow 2 29 1 5
 (.keep [1,5,8,9,10] []
 (.loop
 (.post [1,5,8,9,10] [0,1,2]
 (.seq
 (.reg [] [⟨some 11,.cmp .lss (.tmp 10) (.tmp 9),none⟩])
 (.seq
 (.cond (.tmp 11)
 .skip
 (.exit 0))
 (.seq
 (.block 1
 (.seq
 (.reg [0] [⟨some 12,.ixa 2 (.tmp 8) (.tmp 10),none⟩,
 ⟨some 13,.ld true 2 (.tmp 12),none⟩,
 ⟨some 7,.alloc 0 [(.d (.int .i64 0)),(.d (.int .i64 0))],none⟩,
 ⟨none,.st 2 (.tmp 7) (.tmp 13),none⟩])
 (.reg [1,2] [⟨some 14,.mov (.tmp 5),none⟩,
 ⟨some 15,.mov (.tmp 1),none⟩,
 ⟨some 16,.ld true 2 (.tmp 7),none⟩,
 ⟨some 17,.callv (.tmp 15) [(.tmp 16)],none⟩,
 ⟨some 18,.bsl 1 29 1 1 [(.int .i64 0)] [(0,(.tmp 17))],none⟩,
 ⟨some 19,.app 2 29 1 8 (.tmp 14) (.tmp 18),none⟩,
 ⟨some 5,.mov (.tmp 19),none⟩])))
 (.reg [] [⟨some 20,.arith .add .i64 (.tmp 10) (.cst (.d (.int .i64 1))),none⟩,
 ⟨some 10,.mov (.tmp 20),none⟩])))))))))))
 (.seq
 (.reg [] [⟨some 21,.mov (.tmp 5),none⟩,
 ⟨some 4,.mov (.tmp 21),none⟩])
 .ret))))⟩
def ir146:AFun:=⟨14,2,[.tmp 3],
 (.seq
 (.reg [0] [⟨some 2,.cbx 0 2 (.tmp 0),none⟩,
 ⟨some 3,.mov (.cst (.d (.int .i64 0))),none⟩])
 (.seq
 (.regd [1] [⟨some 4,.ld true 2 (.tmp 1),none⟩,
 ⟨some 5,.ixp 2 1 (.tmp 2) (.cst (.d (.int .i64 0))),none⟩,
 ⟨some 6,.ld false 1 (.tmp 5),none⟩,
 ⟨some 7,.call 87 [(.tmp 4),(.tmp 6)],none⟩,
 ⟨some 8,.ld true 2 (.tmp 1),none⟩,
 ⟨some 9,.ixp 2 1 (.tmp 2) (.cst (.d (.int .i64 1))),none⟩,
 ⟨some 10,.ld false 1 (.tmp 9),none⟩,
 ⟨some 11,.call 87 [(.tmp 8),(.tmp 10)],none⟩,
 ⟨some 12,.bsl 1 29 1 2 [(.int .i64 0),(.int .i64 0)] [(0,(.tmp 7)),(1,(.tmp 11))],none⟩,
 ⟨some 13,.call 86 [(.tmp 12)],none⟩,
 ⟨some 3,.mov (.tmp 13),none⟩] [(0,1),(0,2),(0,4),(1,4),(2,4),(3,4),(0,5),(1,5),(2,5),(3,5),(4,5),(0,6),(1,6),(2,6),(3,6),(4,6)])
 .ret))⟩
def ir147:AFun:=⟨19,1,[.tmp 4],
 (.seq
 (.reg [0] [⟨some 3,.cbx 0 2 (.tmp 1),none⟩,
 ⟨some 4,.mov (.cst (.d (.int .i64 0))),none⟩])
 (.seq
 (.seq
 (.reg [] [⟨some 6,.mov (.tmp 0),none⟩,
 ⟨some 7,.len (.tmp 6),none⟩,
 ⟨some 8,.mov (.cst (.d (.int .i64 0))),none⟩])
 (.post [] [0]
 (.block 0
 (.keep [0,3,7,8] [0]
 (.loop
 (.post [0,3,7,8] []
 (.seq
 (.reg [] [⟨some 9,.cmp .lss (.tmp 8) (.tmp 7),none⟩])
 (.seq
 (.cond (.tmp 9)
 .skip
 (.exit 0))
 (.seq
 (.block 1
 (.seq
 (.reg [] [⟨some 10,.mov (.tmp 8),none⟩,
 ⟨some 5,.mov (.tmp 10),none⟩])
 (.seq
 (.regd [] [⟨some 11,.ld true 2 (.tmp 3),none⟩,
 ⟨some 12,.mov (.tmp 0),none⟩,
 ⟨some 13,.mov (.tmp 5),none⟩,
 ⟨some 14,.ixa 2 (.tmp 12) (.tmp 13),none⟩,
 ⟨some 15,.ld true 2 (.tmp 14),none⟩,
 ⟨some 16,.aeq false [0,0] (.tmp 11) (.tmp 15),none⟩] [(0,1),(0,2),(1,2),(0,3),(0,4)])
 (.cond (.tmp 16)
 (.seq
 (.reg [] [⟨some 17,.mov (.tmp 5),none⟩,
 ⟨some 4,.mov (.tmp 17),none⟩])
 .ret)
 .skip))))
 (.reg [] [⟨some 18,.arith .add .i64 (.tmp 8) (.cst (.d (.int .i64 1))),none⟩,
 ⟨some 8,.mov (.tmp 18),none⟩]))))))))))
 (.seq
 (.reg [] [⟨some 4,.mov (.cst (.d (.int .i64 (-1)))),none⟩])
 .ret)))⟩
theorem c147 (l:List (Int × Int)) (x y:Int) (hl:l.length≤1048576):CallDet Tryz.prog 147 [.d (.slice 2 (prs l)),.d (.agg [.int .i64 x,.int .i64 y])] [.int .i64 (ixP l x y 0)]:=by
 have hln:=prs_len l
 have fin:∀ v,ixP l x y 0=v→resV [.int .i64 v]=resV [.int .i64 (ixP l x y 0)]:=fun v h=>by rw [h]
 refine call_of_vc (x:=ir147) (by kernel_rfl) rfl ?_
 rotate_left
 refine loop_u (fun k:Nat=>[(8,.d (.int .i64 k))]) (fun _=>[]) (fun k=>k≤l.length∧ixP l x y 0=ixP (l.drop k) x y k) (fun k=>l.length - k) 0 rfl ⟨Nat.zero_le _,rfl⟩ ?_
 rintro k ⟨hk,he⟩
 have hk:k≤l.length:=hk
 have he:ixP l x y 0=ixP (l.drop k) x y k:=he
 by_cases hkk:k < l.length
 ·refine Exists.elim (get_lt l hkk) fun p hp=>?_
  have hpd:=prs_at hp
  rw [drop_at hp,ixP] at he
  have e2:samP p x y=false→ixP l x y 0=ixP (l.drop (k+1)) x y (k+1):=fun h=>by rw [he,h]; rfl
  have e1:samP p x y=true→ixP l x y 0=k:=fun h=>by rw [he,h]; rfl
  rw [← samP_sym] at e1 e2
  refine sd ?_
  refine b_lt (fun t1=>?_) (fun t1=>?_)
  refine ix_at hpd ?_ ?_
  (show (0:Int)≤(↑k:Int); omega)
  refine ca (Exists.intro _ (And.intro rfl rfl)) ?_
  refine b_intro (fun t2=>?_) (fun t2=>?_)
  replace t2:(x==Prod.fst p&&(y==Prod.snd p&&true))=true:=t2
  rotate_left
  replace t2:(x==Prod.fst p&&(y==Prod.snd p&&true))=false:=t2
  refine ar_add ?_ ?_
  refine an ?_ ?_
  (show (-9223372036854775808:Int)≤(↑k:Int)+(1:Int); omega)
  (show (↑k:Int)+(1:Int)≤(9223372036854775807:Int); omega)
  rotate_left
  (exfalso; omega)
  ·exact fin _ (e1 t2)
  ·exact ⟨k+1,⟨⟨by show k+1≤l.length; omega,e2 t2⟩,by show l.length - (k+1) < l.length - k; omega⟩,rfl⟩
 ·rw [List.drop_eq_nil_of_le (by omega)] at he
  refine sd ?_
  refine b_lt (fun t1=>?_) (fun t1=>?_)
  (exfalso; omega)
  rotate_left
  exact fin _ he
theorem c109 (l:List (Int × Int)) (x y:Int) (hl:l.length≤1048576):CallDet Tryz.prog 109 [.d (.slice 2 (prs l)),.d (.agg [.int .i64 x,.int .i64 y])] [.bool (lostB l x y)]:=by
 refine call_of_vc (x:=ir109) (by kernel_rfl) rfl ?_
 refine ca (c147 l x y hl) ?_
 refine sd ?_
 rotate_left
 exact congrArg (fun b=>resV [.bool b]) (ixP_ge x y l 0 (Int.le_refl _))
def pairE (m:Ms) (p:Int × Int):Int:=firstOf [m.nodeE p.1,m.nodeE p.2]
theorem c146 (m:Ms) (p:Int × Int):CallDet Tryz.prog 146 [.d (prD p),.cp [.slice 1 (strs m.ns),.slice 3 (lks m.ls)] 0] [.int .i64 (pairE m p)]:=by
 refine call_of_vc (x:=ir146) (by kernel_rfl) rfl ?_
 refine an ?_ ?_
 refine an ?_ ?_
 (show (0:Int)≤(0:Int); omega)
 (show (0:Int) < (↑(2:Nat):Int); omega)
 refine ca (c87 m _) ?_
 refine an ?_ ?_
 refine an ?_ ?_
 (show (0:Int)≤(1:Int); omega)
 (show (1:Int) < (↑(2:Nat):Int); omega)
 refine ca (c87 m _) ?_
 refine sd ?_
 refine sd ?_
 refine ca (c86 [Ms.nodeE m (Prod.fst p),Ms.nodeE m (Prod.snd p)] (by simp)) ?_
 exact rfl
theorem c145 (m:Ms) (l:List (Int × Int)) (hl:l.length≤1048576):CallDet Tryz.prog 145 [.d (.slice 2 (prs l)),.d (.fn (.func 146) [.agg [.slice 1 (strs m.ns),.slice 3 (lks m.ls)]])] [.slice 1 (ints (l.map (pairE m)))]:=by
 have hln:=prs_len l
 have fin:∀ X,X=l→resV [.slice 1 (ints (X.map (pairE m)))]=resV [.slice 1 (ints (l.map (pairE m)))]:=fun X h=>by rw [h]
 refine call_of_vc (x:=ir145) (by kernel_rfl) rfl ?_
 rotate_left
 refine loop_u (fun k:Nat=>[(5,.sl 2 (ints ((l.take k).map (pairE m))).length),(10,.d (.int .i64 k))]) (fun k=>[(2,.row 29 1 (ints ((l.take k).map (pairE m))) false)]) (fun k=>k≤l.length) (fun k=>l.length - k) 0 rfl (Nat.zero_le _) ?_
 intro k hk
 have hk:k≤l.length:=hk
 have hil:=ints_len ((l.take k).map (pairE m))
 rw [List.length_map,List.length_take] at hil
 by_cases hkk:k < l.length
 ·refine Exists.elim (get_lt l hkk) fun p hp=>?_
  have hpd:=prs_at hp
  have e:ints ((l.take (k+1)).map (pairE m))=ints ((l.take k).map (pairE m))++[.int .i64 (pairE m p)]:=by
   rw [take_one hp,List.map_append]; unfold ints; rw [List.map_append]; rfl
  refine sd ?_
  refine b_lt (fun t1=>?_) (fun t1=>?_)
  refine ix_at hpd ?_ ?_
  (show (0:Int)≤(↑k:Int); omega)
  refine ca (c146 m p) ?_
  refine sd ?_
  refine sd ?_
  refine sd ?_
  refine an ?_ ?_
  refine an ?_ ?_
  exact rfl
  refine an ?_ ?_
  exact rfl
  refine an ?_ ?_
  exact rfl
  refine an ?_ ?_
  (show (List.length (ints (List.map (pairE m) (List.take k l)))+(1:Nat)) * (8:Nat)≤(2:Nat) ^ (47:Nat); omega)
  (show List.length (ints (List.map (pairE m) (List.take k l)))+(1:Nat)≤(2:Nat) ^ (47:Nat); omega)
  refine ar_add ?_ ?_
  refine an ?_ ?_
  (show (-9223372036854775808:Int)≤(↑k:Int)+(1:Int); omega)
  (show (↑k:Int)+(1:Int)≤(9223372036854775807:Int); omega)
  rotate_left
  (exfalso; omega)
  refine ⟨k+1,⟨by show k+1≤l.length; omega,by show l.length - (k+1) < l.length - k; omega⟩,?_⟩
  rw [e]; rfl
 ·refine sd ?_
  refine b_lt (fun t1=>?_) (fun t1=>?_)
  (exfalso; omega)
  refine sd ?_
  rotate_left
  exact fin (l.take k) (List.take_of_length_le (by omega))
def pairsE (m:Ms) (l:List (Int × Int)):Int:=bif decide (256 < (l.length:Int)) then 5 else firstOf (l.map (pairE m))
theorem c107 (m:Ms) (l:List (Int × Int)) (hl:l.length≤1048576):CallDet Tryz.prog 107 [.d m.d,.d (.slice 2 (prs l))] [.int .i64 (pairsE m l)]:=by
 have hln:=prs_len l
 have fin:∀ v,pairsE m l=v→resV [.int .i64 v]=resV [.int .i64 (pairsE m l)]:=fun v h=>by rw [h]
 refine call_of_vc (x:=ir107) (by kernel_rfl) rfl ?_
 refine sd ?_
 refine b_lt (fun t1=>?_) (fun t1=>?_)
 rotate_left
 refine ca (c145 m l hl) ?_
 refine ca (c86 (l.map (pairE m)) (by rw [List.length_map]; omega)) ?_
 rotate_left
 ·exact fin _ (by unfold pairsE; rw [← hln,decide_eq_true t1]; rfl)
 ·exact fin _ (by unfold pairsE; rw [← hln,decide_eq_false t1]; rfl)
end Vc
set_option maxRecDepth 10000
namespace Vc
open Go Go.Proofs
@[irreducible] def seg26a:ACode:=.post [2,5,7,8,9] [] (.seq
 (.regd [] [⟨some 44,.mov (.tmp 5),none⟩,
 ⟨some 45,.fad 0 (.tmp 9),none⟩,
 ⟨some 46,.ld false 1 (.tmp 45),none⟩,
 ⟨some 47,.ixa 1 (.tmp 44) (.tmp 46),none⟩,
 ⟨some 48,.ld false 1 (.tmp 47),none⟩,
 ⟨some 49,.cmp .geq (.tmp 48) (.cst (.d (.int .i64 0))),none⟩,
 ⟨some 50,.mov (.tmp 49),none⟩,
 ⟨some 51,.mov (.tmp 5),some (50,true)⟩,
 ⟨some 52,.fad 1 (.tmp 9),some (50,true)⟩,
 ⟨some 53,.ld false 1 (.tmp 52),some (50,true)⟩,
 ⟨some 54,.ixa 1 (.tmp 51) (.tmp 53),some (50,true)⟩,
 ⟨some 55,.ld false 1 (.tmp 54),some (50,true)⟩,
 ⟨some 56,.cmp .lss (.tmp 55) (.cst (.d (.int .i64 0))),some (50,true)⟩,
 ⟨some 57,.mov (.tmp 56),some (50,true)⟩,
 ⟨some 58,.mov (.tmp 5),some (57,false)⟩,
 ⟨some 59,.fad 0 (.tmp 9),some (57,false)⟩,
 ⟨some 60,.ld false 1 (.tmp 59),some (57,false)⟩,
 ⟨some 61,.ixa 1 (.tmp 58) (.tmp 60),some (57,false)⟩,
 ⟨some 62,.ld false 1 (.tmp 61),some (57,false)⟩,
 ⟨some 63,.fad 2 (.tmp 9),some (57,false)⟩,
 ⟨some 64,.ld false 1 (.tmp 63),some (57,false)⟩,
 ⟨some 65,.arith .add .i64 (.tmp 62) (.tmp 64),some (57,false)⟩,
 ⟨some 66,.mov (.tmp 5),some (57,false)⟩,
 ⟨some 67,.fad 1 (.tmp 9),some (57,false)⟩,
 ⟨some 68,.ld false 1 (.tmp 67),some (57,false)⟩,
 ⟨some 69,.ixa 1 (.tmp 66) (.tmp 68),some (57,false)⟩,
 ⟨some 70,.ld false 1 (.tmp 69),some (57,false)⟩,
 ⟨some 71,.cmp .lss (.tmp 65) (.tmp 70),some (57,false)⟩,
 ⟨some 72,.pick (.tmp 57) (.cst (.d (.bool true))) (.tmp 71),some (50,true)⟩,
 ⟨some 73,.pick (.tmp 50) (.tmp 72) (.cst (.d (.bool false))),none⟩] [(0,1),(0,2),(7,8),(7,9),(14,15),(14,16),(14,19),(15,19),(16,19),(17,19),(18,19),(14,20),(15,20),(16,20),(17,20),(18,20),(14,22),(15,22),(16,22),(17,22),(18,22),(19,22),(20,22),(21,22),(14,23),(15,23),(16,23),(17,23),(18,23),(19,23),(20,23),(21,23),(22,23),(14,24),(15,24),(16,24),(17,24),(18,24),(19,24),(20,24),(21,24),(22,24),(14,25),(15,25),(16,25),(17,25),(18,25),(19,25),(20,25),(21,25),(14,26),(15,26),(16,26),(17,26),(18,26),(19,26),(20,26),(21,26)])
 (.cond (.tmp 73)
 (.regd [] [⟨some 74,.mov (.tmp 5),none⟩,
 ⟨some 75,.fad 1 (.tmp 9),none⟩,
 ⟨some 76,.ld false 1 (.tmp 75),none⟩,
 ⟨some 77,.mov (.tmp 5),none⟩,
 ⟨some 78,.fad 0 (.tmp 9),none⟩,
 ⟨some 79,.ld false 1 (.tmp 78),none⟩,
 ⟨some 80,.ixa 1 (.tmp 77) (.tmp 79),none⟩,
 ⟨some 81,.ld false 1 (.tmp 80),none⟩,
 ⟨some 82,.fad 2 (.tmp 9),none⟩,
 ⟨some 83,.ld false 1 (.tmp 82),none⟩,
 ⟨some 84,.arith .add .i64 (.tmp 81) (.tmp 83),none⟩,
 ⟨some 85,.ixa 1 (.tmp 74) (.tmp 76),none⟩,
 ⟨none,.st 1 (.tmp 85) (.tmp 84),none⟩] [(0,1),(0,2),(0,3),(1,3),(2,3),(0,4),(1,4),(2,4),(3,4),(0,5),(1,5),(2,5),(3,5),(0,6),(1,6),(2,6),(0,7),(1,7),(2,7),(0,8),(1,8),(2,8),(3,8),(4,8),(5,8),(6,8),(7,8),(0,9),(1,9),(2,9),(3,9),(4,9),(5,9),(6,9),(7,9),(0,10),(1,10),(2,10)])
 .skip))
@[irreducible] def seg26b:ACode:=.post [2,5,7,8,9] [] (.seq
 (.regd [] [⟨some 86,.mov (.tmp 5),none⟩,
 ⟨some 87,.fad 1 (.tmp 9),none⟩,
 ⟨some 88,.ld false 1 (.tmp 87),none⟩,
 ⟨some 89,.ixa 1 (.tmp 86) (.tmp 88),none⟩,
 ⟨some 90,.ld false 1 (.tmp 89),none⟩,
 ⟨some 91,.cmp .geq (.tmp 90) (.cst (.d (.int .i64 0))),none⟩,
 ⟨some 92,.mov (.tmp 91),none⟩,
 ⟨some 93,.mov (.tmp 5),some (92,true)⟩,
 ⟨some 94,.fad 0 (.tmp 9),some (92,true)⟩,
 ⟨some 95,.ld false 1 (.tmp 94),some (92,true)⟩,
 ⟨some 96,.ixa 1 (.tmp 93) (.tmp 95),some (92,true)⟩,
 ⟨some 97,.ld false 1 (.tmp 96),some (92,true)⟩,
 ⟨some 98,.cmp .lss (.tmp 97) (.cst (.d (.int .i64 0))),some (92,true)⟩,
 ⟨some 99,.mov (.tmp 98),some (92,true)⟩,
 ⟨some 100,.mov (.tmp 5),some (99,false)⟩,
 ⟨some 101,.fad 1 (.tmp 9),some (99,false)⟩,
 ⟨some 102,.ld false 1 (.tmp 101),some (99,false)⟩,
 ⟨some 103,.ixa 1 (.tmp 100) (.tmp 102),some (99,false)⟩,
 ⟨some 104,.ld false 1 (.tmp 103),some (99,false)⟩,
 ⟨some 105,.fad 2 (.tmp 9),some (99,false)⟩,
 ⟨some 106,.ld false 1 (.tmp 105),some (99,false)⟩,
 ⟨some 107,.arith .add .i64 (.tmp 104) (.tmp 106),some (99,false)⟩,
 ⟨some 108,.mov (.tmp 5),some (99,false)⟩,
 ⟨some 109,.fad 0 (.tmp 9),some (99,false)⟩,
 ⟨some 110,.ld false 1 (.tmp 109),some (99,false)⟩,
 ⟨some 111,.ixa 1 (.tmp 108) (.tmp 110),some (99,false)⟩,
 ⟨some 112,.ld false 1 (.tmp 111),some (99,false)⟩,
 ⟨some 113,.cmp .lss (.tmp 107) (.tmp 112),some (99,false)⟩,
 ⟨some 114,.pick (.tmp 99) (.cst (.d (.bool true))) (.tmp 113),some (92,true)⟩,
 ⟨some 115,.pick (.tmp 92) (.tmp 114) (.cst (.d (.bool false))),none⟩] [(0,1),(0,2),(7,8),(7,9),(14,15),(14,16),(14,19),(15,19),(16,19),(17,19),(18,19),(14,20),(15,20),(16,20),(17,20),(18,20),(14,22),(15,22),(16,22),(17,22),(18,22),(19,22),(20,22),(21,22),(14,23),(15,23),(16,23),(17,23),(18,23),(19,23),(20,23),(21,23),(22,23),(14,24),(15,24),(16,24),(17,24),(18,24),(19,24),(20,24),(21,24),(22,24),(14,25),(15,25),(16,25),(17,25),(18,25),(19,25),(20,25),(21,25),(14,26),(15,26),(16,26),(17,26),(18,26),(19,26),(20,26),(21,26)])
 (.cond (.tmp 115)
 (.regd [] [⟨some 116,.mov (.tmp 5),none⟩,
 ⟨some 117,.fad 0 (.tmp 9),none⟩,
 ⟨some 118,.ld false 1 (.tmp 117),none⟩,
 ⟨some 119,.mov (.tmp 5),none⟩,
 ⟨some 120,.fad 1 (.tmp 9),none⟩,
 ⟨some 121,.ld false 1 (.tmp 120),none⟩,
 ⟨some 122,.ixa 1 (.tmp 119) (.tmp 121),none⟩,
 ⟨some 123,.ld false 1 (.tmp 122),none⟩,
 ⟨some 124,.fad 2 (.tmp 9),none⟩,
 ⟨some 125,.ld false 1 (.tmp 124),none⟩,
 ⟨some 126,.arith .add .i64 (.tmp 123) (.tmp 125),none⟩,
 ⟨some 127,.ixa 1 (.tmp 116) (.tmp 118),none⟩,
 ⟨none,.st 1 (.tmp 127) (.tmp 126),none⟩] [(0,1),(0,2),(0,3),(1,3),(2,3),(0,4),(1,4),(2,4),(3,4),(0,5),(1,5),(2,5),(3,5),(0,6),(1,6),(2,6),(0,7),(1,7),(2,7),(0,8),(1,8),(2,8),(3,8),(4,8),(5,8),(6,8),(7,8),(0,9),(1,9),(2,9),(3,9),(4,9),(5,9),(6,9),(7,9),(0,10),(1,10),(2,10)])
 .skip))
def ir26:AFun:=⟨129,3,[.tmp 4],
 (.seq
 (.reg [0] [⟨some 2,.cbx 0 2 (.tmp 0),none⟩,
 ⟨some 4,.mov (.cst (.nils 1)),none⟩])
 (.seq
 (.reg [1] [⟨some 10,.fad 0 (.tmp 2),none⟩,
 ⟨some 11,.ld false 1 (.tmp 10),none⟩,
 ⟨some 12,.len (.tmp 11),none⟩,
 ⟨some 13,.msl 1 3 1 8 (.int .i64 0) (.tmp 12),none⟩,
 ⟨some 5,.mov (.tmp 13),none⟩])
 (.seq
 (.seq
 (.reg [] [⟨some 6,.mov (.cst (.d (.int .i64 0))),none⟩])
 (.post [1,2,5] [0,1]
 (.block 0
 (.keep [1,2,5,6] [0,1]
 (.loop
 (.post [1,2,5,6] []
 (.seq
 (.seq
 (.reg [] [⟨some 14,.mov (.tmp 6),none⟩,
 ⟨some 15,.mov (.tmp 5),none⟩,
 ⟨some 16,.len (.tmp 15),none⟩,
 ⟨some 17,.cmp .lss (.tmp 14) (.tmp 16),none⟩])
 (.cond (.tmp 17)
 .skip
 (.exit 0)))
 (.seq
 (.block 1
 (.reg [] [⟨some 20,.mov (.tmp 5),none⟩,
 ⟨some 21,.mov (.tmp 6),none⟩,
 ⟨some 22,.ixa 1 (.tmp 20) (.tmp 21),none⟩,
 ⟨none,.st 1 (.tmp 22) (.cst (.d (.int .i64 (-1)))),none⟩]))
 (.reg [] [⟨some 18,.mov (.tmp 6),none⟩,
 ⟨some 19,.arith .add .i64 (.tmp 18) (.cst (.d (.int .i64 1))),none⟩,
 ⟨some 6,.mov (.tmp 19),none⟩])))))))))
 (.seq
 (.reg [] [⟨some 23,.mov (.tmp 5),none⟩,
 ⟨some 24,.mov (.tmp 1),none⟩,
 ⟨some 25,.ixa 1 (.tmp 23) (.tmp 24),none⟩,
 ⟨none,.st 1 (.tmp 25) (.cst (.d (.int .i64 0))),none⟩])
 (.seq
 (.seq
 (.reg [] [⟨some 7,.mov (.cst (.d (.int .i64 1))),none⟩])
 (.post [5] [0,1,2]
 (.block 2
 (.keep [2,5,7] [0,1]
 (.loop
 (.post [2,5,7] [2]
 (.seq
 (.seq
 (.reg [] [⟨some 26,.mov (.tmp 7),none⟩,
 ⟨some 27,.mov (.tmp 5),none⟩,
 ⟨some 28,.len (.tmp 27),none⟩,
 ⟨some 29,.cmp .lss (.tmp 26) (.tmp 28),none⟩])
 (.cond (.tmp 29)
 .skip
 (.exit 2)))
 (.seq
 (.block 3
 (.seq
 (.reg [] [⟨some 8,.mov (.cst (.d (.int .i64 0))),none⟩])
 (.post [2,5,7] [0,1,2]
 (.block 4
 (.keep [2,5,7,8] [0,1]
 (.loop
 (.post [2,5,7,8] [2]
 (.seq
 (.seq
 (.reg [] [⟨some 32,.mov (.tmp 8),none⟩,
 ⟨some 33,.fad 1 (.tmp 2),none⟩,
 ⟨some 34,.ld false 1 (.tmp 33),none⟩,
 ⟨some 35,.len (.tmp 34),none⟩,
 ⟨some 36,.cmp .lss (.tmp 32) (.tmp 35),none⟩])
 (.cond (.tmp 36)
 .skip
 (.exit 4)))
 (.seq
 (.block 5
 (.seq
 (.reg [2] [⟨some 39,.fad 1 (.tmp 2),none⟩,
 ⟨some 40,.ld false 1 (.tmp 39),none⟩,
 ⟨some 41,.mov (.tmp 8),none⟩,
 ⟨some 42,.ixa 3 (.tmp 40) (.tmp 41),none⟩,
 ⟨some 43,.ld true 3 (.tmp 42),none⟩,
 ⟨some 9,.alloc 2 [(.d (.int .i64 0)),(.d (.int .i64 0)),(.d (.int .i64 0))],none⟩,
 ⟨none,.st 3 (.tmp 9) (.tmp 43),none⟩])
 (.seq
 (.keep [2,5,7,8,9] [] seg26a)
 (.keep [2,5,7,8,9] [] seg26b))))
 (.reg [] [⟨some 37,.mov (.tmp 8),none⟩,
 ⟨some 38,.arith .add .i64 (.tmp 37) (.cst (.d (.int .i64 1))),none⟩,
 ⟨some 8,.mov (.tmp 38),none⟩]))))))))))
 (.reg [] [⟨some 30,.mov (.tmp 7),none⟩,
 ⟨some 31,.arith .add .i64 (.tmp 30) (.cst (.d (.int .i64 1))),none⟩,
 ⟨some 7,.mov (.tmp 31),none⟩])))))))))
 (.seq
 (.reg [] [⟨some 128,.mov (.tmp 5),none⟩,
 ⟨some 4,.mov (.tmp 128),none⟩])
 .ret))))))⟩
theorem v26a {n : Nat} {m : Ms} {d : List Int} {N : Nat} {l : Lk} {r k : AVal} {Q : AExit → St → Prop} (hN : d.length = N) (hN32 : N ≤ 32) (hl : l.okIn N) (hrng : ∀ i, -1 ≤ at0 d i ∧ at0 d i ≤ 3200)
  (h:Q .normal ⟨[(2,.ptr 0 0),(5,.sl 1 N),(7,r),(8,k),(9,.ptr 2 0)],[.cbox [.slice 1 (strs m.ns),.slice 3 (lks m.ls)],.row 3 1 (ints (relax d l.a.toNat l.b.toNat l.c)) false,.box [.d (.int .i64 l.a),.d (.int .i64 l.b),.d (.int .i64 l.c)]]⟩) :
  vc Tryz.prog n seg26a ⟨[(2,.ptr 0 0),(5,.sl 1 N),(7,r),(8,k),(9,.ptr 2 0)],[.cbox [.slice 1 (strs m.ns),.slice 3 (lks m.ls)],.row 3 1 (ints d) false,.box [.d (.int .i64 l.a),.d (.int .i64 l.b),.d (.int .i64 l.c)]]⟩ Q:=by
 unfold seg26a
 have hla:=hl.na
 have hlb:=hl.nb
 have hlen:(ints d).length=N:=by rw [ints_len,hN]
 obtain ⟨⟨ha0,ha1⟩,⟨hb0,hb1⟩,hc0,hc1⟩:=hl
 have hx:(ints d)[l.a.toNat]?=some (.int .i64 (at0 d l.a.toNat)):=ints_at0 (by rw [hN]; exact hla)
 have hy:(ints d)[l.b.toNat]?=some (.int .i64 (at0 d l.b.toNat)):=ints_at0 (by rw [hN]; exact hlb)
 have hrx:=hrng l.a.toNat
 have hry:=hrng l.b.toNat
 have yes:bett d l.a.toNat l.b.toNat l.c=true→Q .normal ⟨[(2,.ptr 0 0),(5,.sl 1 N),(7,r),(8,k),(9,.ptr 2 0)],[.cbox [.slice 1 (strs m.ns),.slice 3 (lks m.ls)],.row 3 1 ((ints d).set l.b.toNat (.int .i64 (at0 d l.a.toNat+l.c))) false,.box [.d (.int .i64 l.a),.d (.int .i64 l.b),.d (.int .i64 l.c)]]⟩:=fun hb=>by rw [← relax_yes hb]; exact h
 have no:bett d l.a.toNat l.b.toNat l.c=false→Q .normal ⟨[(2,.ptr 0 0),(5,.sl 1 N),(7,r),(8,k),(9,.ptr 2 0)],[.cbox [.slice 1 (strs m.ns),.slice 3 (lks m.ls)],.row 3 1 (ints d) false,.box [.d (.int .i64 l.a),.d (.int .i64 l.b),.d (.int .i64 l.c)]]⟩:=fun hb=>by rw [relax_no hb] at h; exact h
 refine an ?_ ?_
 refine an ?_ ?_
 exact rfl
 refine an ?_ ?_
 assumption
 refine an ?_ ?_
 assumption
 assumption
 refine an ?_ ?_
 assumption
 refine ca hx ?_
 refine sd ?_
 refine b_le (fun t1=>?_) (fun t1=>?_)
 refine an ?_ ?_
 refine an ?_ ?_
 exact rfl
 refine an ?_ ?_
 assumption
 refine an ?_ ?_
 assumption
 assumption
 refine an ?_ ?_
 assumption
 refine ca hy ?_
 refine sd ?_
 refine b_lt (fun t2=>?_) (fun t2=>?_)
 refine sd ?_
 refine an ?_ ?_
 refine an ?_ ?_
 exact rfl
 refine an ?_ ?_
 assumption
 refine an ?_ ?_
 assumption
 assumption
 refine an ?_ ?_
 assumption
 refine ca hx ?_
 refine ar_add ?_ ?_
 refine an ?_ ?_
 (show (-9223372036854775808:Int)≤at0 d (Int.toNat (Lk.a l))+Lk.c l; omega)
 (show at0 d (Int.toNat (Lk.a l))+Lk.c l≤(9223372036854775807:Int); omega)
 refine an ?_ ?_
 refine an ?_ ?_
 exact rfl
 refine an ?_ ?_
 assumption
 refine an ?_ ?_
 assumption
 assumption
 refine Exists.intro _ (Exists.intro (Data.int IntKind.i64 (at0 d (Int.toNat (Lk.a l))+Lk.c l)) (And.intro (And.intro ?_ (And.intro hy (And.intro rfl (And.intro ?_ (And.intro rfl rfl))))) ?_))
 assumption
 exact Nat.le_refl _
 rotate_left
 refine an ?_ ?_
 refine an ?_ ?_
 exact rfl
 refine an ?_ ?_
 assumption
 refine an ?_ ?_
 assumption
 assumption
 refine an ?_ ?_
 assumption
 refine ca hx ?_
 refine ar_add ?_ ?_
 refine an ?_ ?_
 (show (-9223372036854775808:Int)≤at0 d (Int.toNat (Lk.a l))+Lk.c l; omega)
 (show at0 d (Int.toNat (Lk.a l))+Lk.c l≤(9223372036854775807:Int); omega)
 refine an ?_ ?_
 refine an ?_ ?_
 exact rfl
 refine an ?_ ?_
 assumption
 refine an ?_ ?_
 assumption
 assumption
 refine an ?_ ?_
 assumption
 refine ca hy ?_
 refine sd ?_
 refine b_lt (fun t3=>?_) (fun t3=>?_)
 refine an ?_ ?_
 refine an ?_ ?_
 exact rfl
 refine an ?_ ?_
 assumption
 refine an ?_ ?_
 assumption
 assumption
 refine an ?_ ?_
 assumption
 refine ca hx ?_
 refine ar_add ?_ ?_
 refine an ?_ ?_
 (show (-9223372036854775808:Int)≤at0 d (Int.toNat (Lk.a l))+Lk.c l; omega)
 (show at0 d (Int.toNat (Lk.a l))+Lk.c l≤(9223372036854775807:Int); omega)
 refine an ?_ ?_
 refine an ?_ ?_
 exact rfl
 refine an ?_ ?_
 assumption
 refine an ?_ ?_
 assumption
 assumption
 refine Exists.intro _ (Exists.intro (Data.int IntKind.i64 (at0 d (Int.toNat (Lk.a l))+Lk.c l)) (And.intro (And.intro ?_ (And.intro hy (And.intro rfl (And.intro ?_ (And.intro rfl rfl))))) ?_))
 assumption
 exact Nat.le_refl _
 rotate_left
 rotate_left
 refine sd ?_
 rotate_left
 ·exact yes (bett_new (by omega) t2)
 ·exact yes (bett_less (by omega) t3)
 ·exact no (bett_stay (by omega) t3)
 ·exact no (bett_no (by omega))
theorem v26b {n : Nat} {m : Ms} {d : List Int} {N : Nat} {l : Lk} {r k : AVal} {Q : AExit → St → Prop} (hN : d.length = N) (hN32 : N ≤ 32) (hl : l.okIn N) (hrng : ∀ i, -1 ≤ at0 d i ∧ at0 d i ≤ 3200)
  (h:Q .normal ⟨[(2,.ptr 0 0),(5,.sl 1 N),(7,r),(8,k),(9,.ptr 2 0)],[.cbox [.slice 1 (strs m.ns),.slice 3 (lks m.ls)],.row 3 1 (ints (relax d l.b.toNat l.a.toNat l.c)) false,.box [.d (.int .i64 l.a),.d (.int .i64 l.b),.d (.int .i64 l.c)]]⟩) :
  vc Tryz.prog n seg26b ⟨[(2,.ptr 0 0),(5,.sl 1 N),(7,r),(8,k),(9,.ptr 2 0)],[.cbox [.slice 1 (strs m.ns),.slice 3 (lks m.ls)],.row 3 1 (ints d) false,.box [.d (.int .i64 l.a),.d (.int .i64 l.b),.d (.int .i64 l.c)]]⟩ Q:=by
 unfold seg26b
 have hla:=hl.na
 have hlb:=hl.nb
 have hlen:(ints d).length=N:=by rw [ints_len,hN]
 obtain ⟨⟨ha0,ha1⟩,⟨hb0,hb1⟩,hc0,hc1⟩:=hl
 have hx:(ints d)[l.a.toNat]?=some (.int .i64 (at0 d l.a.toNat)):=ints_at0 (by rw [hN]; exact hla)
 have hy:(ints d)[l.b.toNat]?=some (.int .i64 (at0 d l.b.toNat)):=ints_at0 (by rw [hN]; exact hlb)
 have hrx:=hrng l.a.toNat
 have hry:=hrng l.b.toNat
 have yes:bett d l.b.toNat l.a.toNat l.c=true→Q .normal ⟨[(2,.ptr 0 0),(5,.sl 1 N),(7,r),(8,k),(9,.ptr 2 0)],[.cbox [.slice 1 (strs m.ns),.slice 3 (lks m.ls)],.row 3 1 ((ints d).set l.a.toNat (.int .i64 (at0 d l.b.toNat+l.c))) false,.box [.d (.int .i64 l.a),.d (.int .i64 l.b),.d (.int .i64 l.c)]]⟩:=fun hb=>by rw [← relax_yes hb]; exact h
 have no:bett d l.b.toNat l.a.toNat l.c=false→Q .normal ⟨[(2,.ptr 0 0),(5,.sl 1 N),(7,r),(8,k),(9,.ptr 2 0)],[.cbox [.slice 1 (strs m.ns),.slice 3 (lks m.ls)],.row 3 1 (ints d) false,.box [.d (.int .i64 l.a),.d (.int .i64 l.b),.d (.int .i64 l.c)]]⟩:=fun hb=>by rw [relax_no hb] at h; exact h
 refine an ?_ ?_
 refine an ?_ ?_
 exact rfl
 refine an ?_ ?_
 assumption
 refine an ?_ ?_
 assumption
 assumption
 refine an ?_ ?_
 assumption
 refine ca hy ?_
 refine sd ?_
 refine b_le (fun t1=>?_) (fun t1=>?_)
 refine an ?_ ?_
 refine an ?_ ?_
 exact rfl
 refine an ?_ ?_
 assumption
 refine an ?_ ?_
 assumption
 assumption
 refine an ?_ ?_
 assumption
 refine ca hx ?_
 refine sd ?_
 refine b_lt (fun t2=>?_) (fun t2=>?_)
 refine sd ?_
 refine an ?_ ?_
 refine an ?_ ?_
 exact rfl
 refine an ?_ ?_
 assumption
 refine an ?_ ?_
 assumption
 assumption
 refine an ?_ ?_
 assumption
 refine ca hy ?_
 refine ar_add ?_ ?_
 refine an ?_ ?_
 (show (-9223372036854775808:Int)≤at0 d (Int.toNat (Lk.b l))+Lk.c l; omega)
 (show at0 d (Int.toNat (Lk.b l))+Lk.c l≤(9223372036854775807:Int); omega)
 refine an ?_ ?_
 refine an ?_ ?_
 exact rfl
 refine an ?_ ?_
 assumption
 refine an ?_ ?_
 assumption
 assumption
 refine Exists.intro _ (Exists.intro (Data.int IntKind.i64 (at0 d (Int.toNat (Lk.b l))+Lk.c l)) (And.intro (And.intro ?_ (And.intro hx (And.intro rfl (And.intro ?_ (And.intro rfl rfl))))) ?_))
 assumption
 exact Nat.le_refl _
 rotate_left
 refine an ?_ ?_
 refine an ?_ ?_
 exact rfl
 refine an ?_ ?_
 assumption
 refine an ?_ ?_
 assumption
 assumption
 refine an ?_ ?_
 assumption
 refine ca hy ?_
 refine ar_add ?_ ?_
 refine an ?_ ?_
 (show (-9223372036854775808:Int)≤at0 d (Int.toNat (Lk.b l))+Lk.c l; omega)
 (show at0 d (Int.toNat (Lk.b l))+Lk.c l≤(9223372036854775807:Int); omega)
 refine an ?_ ?_
 refine an ?_ ?_
 exact rfl
 refine an ?_ ?_
 assumption
 refine an ?_ ?_
 assumption
 assumption
 refine an ?_ ?_
 assumption
 refine ca hx ?_
 refine sd ?_
 refine b_lt (fun t3=>?_) (fun t3=>?_)
 refine an ?_ ?_
 refine an ?_ ?_
 exact rfl
 refine an ?_ ?_
 assumption
 refine an ?_ ?_
 assumption
 assumption
 refine an ?_ ?_
 assumption
 refine ca hy ?_
 refine ar_add ?_ ?_
 refine an ?_ ?_
 (show (-9223372036854775808:Int)≤at0 d (Int.toNat (Lk.b l))+Lk.c l; omega)
 (show at0 d (Int.toNat (Lk.b l))+Lk.c l≤(9223372036854775807:Int); omega)
 refine an ?_ ?_
 refine an ?_ ?_
 exact rfl
 refine an ?_ ?_
 assumption
 refine an ?_ ?_
 assumption
 assumption
 refine Exists.intro _ (Exists.intro (Data.int IntKind.i64 (at0 d (Int.toNat (Lk.b l))+Lk.c l)) (And.intro (And.intro ?_ (And.intro hx (And.intro rfl (And.intro ?_ (And.intro rfl rfl))))) ?_))
 assumption
 exact Nat.le_refl _
 rotate_left
 rotate_left
 refine sd ?_
 rotate_left
 ·exact yes (bett_new (by omega) t2)
 ·exact yes (bett_less (by omega) t3)
 ·exact no (bett_stay (by omega) t3)
 ·exact no (bett_no (by omega))
theorem fill_at {l:List Data} {k:Nat} {v:Data} (h:k < l.length):(List.replicate k v++l.drop k).set k v=List.replicate (k+1) v++l.drop (k+1):=by
 rw [List.set_append_right _ _ (by rw [List.length_replicate]; exact Nat.le_refl _),List.length_replicate,Nat.sub_self,List.replicate_succ',List.append_assoc]
 congr 1
 rw [List.drop_eq_getElem_cons h]; rfl
set_option maxHeartbeats 4000000 in
theorem fill_at2 {L k:Nat} {u v:Data} (h:k < (List.replicate L u).length):(List.replicate k v++(List.replicate L u).drop k).set k v=List.replicate (k+1) v++(List.replicate L u).drop (k+1):=fill_at h
set_option maxHeartbeats 4000000 in
theorem c26 (m:Ms) (f:Int) (hf:m.fine) (h0:0≤f) (h1:f < (m.ns.length:Int)):CallDet Tryz.prog 26 [.d m.d,.d (.int .i64 f)] [.slice 1 (ints (m.dist f))]:=by
 have hsl:=strs_len m.ns
 have hll:=lks_len m.ls
 have h32:=hf.n32
 have h128:=hf.l128
 have hfn:f.toNat < m.ns.length:=by omega
 have hokl:=hf.okIn
 refine call_of_vc (x:=ir26) (by kernel_rfl) rfl ?_
 refine an ?_ ?_
 refine an ?_ ?_
 (show (0:Int)≤(↑(List.length (strs (Ms.ns m))):Int); omega)
 refine an ?_ ?_
 (show (↑(List.length (strs (Ms.ns m))):Int) * (↑(8:Nat):Int)≤(2:Int) ^ (47:Nat); omega)
 (show (↑(List.length (strs (Ms.ns m))):Int)≤(2:Int) ^ (47:Nat); omega)
 rotate_left
 have fin:∀ d:List Int,m.dist f=d→resV [.slice 1 (ints d)]=resV [.slice 1 (ints (m.dist f))]:=fun d h=>by rw [h]
 refine loop_u (fun a:Nat × List Data=>[(6,.d (.int .i64 (a.1)))]) (fun a=>[(1,.row 3 1 (a.2) false)]) (fun a=>a.1≤(strs m.ns).length∧a.2=List.replicate a.1 (.int .i64 (-1))++(List.replicate (strs m.ns).length (.int .i64 0)).drop a.1) (fun a=>(strs m.ns).length - a.1) (0,List.replicate (strs m.ns).length (.int .i64 0)) rfl ⟨Nat.zero_le _,rfl⟩ ?_
 rintro ⟨k,es⟩ ⟨hk,he⟩
 have hk:k≤(strs m.ns).length:=hk
 have he:es=List.replicate k (.int .i64 (-1))++(List.replicate (strs m.ns).length (.int .i64 0)).drop k:=he
 have hlen:es.length=(strs m.ns).length:=by
  rw [he,List.length_append,List.length_replicate,List.length_drop,List.length_replicate]; omega
 have hx:k < (strs m.ns).length→es[((k:Int)).toNat]?=some (.int .i64 0):=fun h=>by
  show es[k]?=some (.int .i64 0)
  rw [he,List.getElem?_append_right (by rw [List.length_replicate]; exact Nat.le_refl _),List.length_replicate,List.getElem?_drop,List.getElem?_replicate,if_pos (by omega)]
 have hy:¬ k < (strs m.ns).length→es[f.toNat]?=some (.int .i64 (-1)):=fun h=>by
  rw [he,List.getElem?_append_left (by rw [List.length_replicate]; omega),List.getElem?_replicate,if_pos (by omega)]
 have e0:¬ k < (strs m.ns).length→es.set f.toNat (.int .i64 0)=ints (start m.ns.length f.toNat):=fun h=>by
  have ek:k=m.ns.length:=by omega
  subst ek
  unfold start; rw [he,ints_set,ints_rep,List.drop_eq_nil_of_le (by rw [List.length_replicate]; omega),List.append_nil]
 refine an ?_ ?_
 assumption
 refine sd ?_
 refine b_lt (fun t1=>?_) (fun t1=>?_)
 replace t1:(↑k:Int) < (↑(List.length es):Int):=t1
 refine an ?_ ?_
 refine an ?_ ?_
 exact rfl
 refine an ?_ ?_
 assumption
 refine an ?_ ?_
 (show (0:Int)≤(↑k:Int); omega)
 (show (↑k:Int) < (↑(Int.toNat (↑(List.length (strs (Ms.ns m))):Int)):Int); omega)
 refine Exists.intro _ (Exists.intro (Data.int IntKind.i64 (-1:Int)) (And.intro (And.intro ?_ (And.intro (hx (by omega)) (And.intro rfl (And.intro ?_ (And.intro rfl rfl))))) ?_))
 assumption
 exact Nat.le_refl _
 refine ar_add ?_ ?_
 refine an ?_ ?_
 (show (-9223372036854775808:Int)≤(↑k:Int)+(1:Int); omega)
 (show (↑k:Int)+(1:Int)≤(9223372036854775807:Int); omega)
 rotate_left
 replace t1:¬(↑k:Int) < (↑(List.length es):Int):=t1
 refine an ?_ ?_
 refine an ?_ ?_
 exact rfl
 refine an ?_ ?_
 assumption
 refine an ?_ ?_
 assumption
 (show f < (↑(Int.toNat (↑(List.length (strs (Ms.ns m))):Int)):Int); omega)
 refine Exists.intro _ (Exists.intro (Data.int IntKind.i64 (0:Int)) (And.intro (And.intro ?_ (And.intro (hy (by omega)) (And.intro rfl (And.intro ?_ (And.intro rfl rfl))))) ?_))
 assumption
 exact Nat.le_refl _
 rotate_left
 ·exact ⟨(k+1,es.set k (.int .i64 (-1))),⟨⟨by show k+1≤(strs m.ns).length; omega,by rw [he]; exact fill_at2 (by rw [List.length_replicate]; omega)⟩,by show (strs m.ns).length - (k+1) < (strs m.ns).length - k; omega⟩,rfl⟩
 refine loop_u (fun a:Nat × List Int=>[(7,.d (.int .i64 (a.1)))]) (fun a=>[(1,.row 3 1 (ints (a.2)) false)]) (fun a=>1≤a.1∧(a.1≤m.ns.length∧a.2=passes m.ls (a.1 - 1) (start m.ns.length f.toNat))) (fun a=>m.ns.length - a.1) (1,start m.ns.length f.toNat) (by rw [← e0 (by omega)]; rfl) ⟨Nat.le_refl _,by show 1≤m.ns.length; omega,rfl⟩ ?_
 rintro ⟨r,d⟩ ⟨hr0,hr,hd⟩
 have hr0:1≤r:=hr0
 have hr:r≤m.ns.length:=hr
 have hd:d=passes m.ls (r - 1) (start m.ns.length f.toNat):=hd
 have hok:DOk m.ns.length f.toNat d:=by rw [hd]; exact passes_ok h32 hfn hokl (r - 1)
 have hdl:(ints d).length=(strs m.ns).length:=by rw [ints_len,hok.len,hsl]
 refine an ?_ ?_
 assumption
 refine sd ?_
 refine b_lt (fun t2=>?_) (fun t2=>?_)
 replace t2:(↑r:Int) < (↑(List.length (ints d)):Int):=t2
 rotate_left
 replace t2:¬(↑r:Int) < (↑(List.length (ints d)):Int):=t2
 refine an ?_ ?_
 assumption
 rotate_left
 ·refine loop_u (fun a:Nat × List Int=>[(8,.d (.int .i64 (a.1)))]) (fun a=>[(1,.row 3 1 (ints (a.2)) false)]) (fun a=>a.1≤m.ls.length∧a.2=pass (m.ls.take a.1) d) (fun a=>m.ls.length - a.1) (0,d) rfl ⟨Nat.zero_le _,rfl⟩ ?_
  rintro ⟨q,d1⟩ ⟨hq,hd1⟩
  have hq:q≤m.ls.length:=hq
  have hd1:d1=pass (m.ls.take q) d:=hd1
  have hok1:DOk m.ns.length f.toNat d1:=by rw [hd1]; exact hok.pass (fun l hl=>hokl l (List.mem_of_mem_take hl))
  by_cases hqq:q < m.ls.length
  ·refine Exists.elim (get_lt m.ls hqq) fun l hl=>?_
   have hin:=hokl l (List.mem_of_getElem? hl)
   have hl2:=lks_at hl
   have hok2:=hok1.relax (x:=l.a.toNat) hin.nb hin.2.2
   have hN:d1.length=(strs m.ns).length:=by rw [hok1.len,hsl]
   have hN2:(relax d1 l.a.toNat l.b.toNat l.c).length=(strs m.ns).length:=by rw [hok2.len,hsl]
   have hin2:l.okIn (strs m.ns).length:=by rw [hsl]; exact hin
   have hrg:=hok1.rng
   have hrg2:=hok2.rng
   have hs32:(strs m.ns).length≤32:=by omega
   refine sd ?_
   refine b_lt (fun t3=>?_) (fun t3=>?_)
   replace t3:(↑q:Int) < (↑(List.length (lks (Ms.ls m))):Int):=t3
   refine ix_at hl2 ?_ ?_
   (show (0:Int)≤(↑q:Int); omega)
   refine v26a hN hs32 hin2 hrg ?_
   refine v26b hN2 hs32 hin2 hrg2 ?_
   refine ar_add ?_ ?_
   refine an ?_ ?_
   (show (-9223372036854775808:Int)≤(↑q:Int)+(1:Int); omega)
   (show (↑q:Int)+(1:Int)≤(9223372036854775807:Int); omega)
   rotate_left
   replace t3:¬(↑q:Int) < (↑(List.length (lks (Ms.ls m))):Int):=t3
   (exfalso; omega)
   exact ⟨(q+1,relax2 d1 l),⟨⟨by show q+1≤m.ls.length; omega,by show relax2 d1 l=_; rw [hd1,pass_snoc hl]⟩,by show m.ls.length - (q+1) < m.ls.length - q; omega⟩,rfl⟩
  ·have eq:m.ls.take q=m.ls:=List.take_of_length_le (by omega)
   rw [eq] at hd1
   refine sd ?_
   refine b_lt (fun t3=>?_) (fun t3=>?_)
   replace t3:(↑q:Int) < (↑(List.length (lks (Ms.ls m))):Int):=t3
   (exfalso; omega)
   replace t3:¬(↑q:Int) < (↑(List.length (lks (Ms.ls m))):Int):=t3
   refine ar_add ?_ ?_
   refine an ?_ ?_
   (show (-9223372036854775808:Int)≤(↑r:Int)+(1:Int); omega)
   (show (↑r:Int)+(1:Int)≤(9223372036854775807:Int); omega)
   rotate_left
   exact ⟨(r+1,d1),⟨⟨by show 1≤r+1; omega,by show r+1≤m.ns.length; omega,by
    show d1=passes m.ls r (start m.ns.length f.toNat)
    rw [hd1,hd]
    obtain ⟨j,rfl⟩:∃ j,r=j+1:=⟨r - 1,by omega⟩
    rfl⟩,by show m.ns.length - (r+1) < m.ns.length - r; omega⟩,rfl⟩
 ·refine fin d ?_
  rw [hd,show r=m.ns.length by omega]; rfl
end Vc
