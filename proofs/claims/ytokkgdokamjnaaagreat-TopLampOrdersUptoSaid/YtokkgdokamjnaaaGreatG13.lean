import Derived.Test.YtokkgdokamjnaaaGreatG12
import Derived.Test.YtokkgdokamjnaaaGreatG05
import Derived.Test.YtokkgdokamjnaaaGreatG04
import Derived.Test.YtokkgdokamjnaaaGreatRows
import Derived.Laws.RangeAny
set_option linter.unusedSectionVars false
set_option linter.unusedVariables false
set_option linter.unusedSimpArgs false
set_option maxRecDepth 10000
namespace Vc.L
open Go Go.Proofs Go.RowKit
def ir92:AFun:=⟨7,0,[.tmp 4],
 (.seq
 (.reg [] [⟨some 4,.mov (.cst (.d (.int .i64 0))),none⟩])
 (.seq
 (.seq
 (.reg [] [⟨some 5,.mov (.tmp 0),none⟩])
 (.cond (.tmp 5)
 (.seq
 (.reg [] [⟨some 6,.mov (.tmp 1),none⟩,
 ⟨some 4,.mov (.tmp 6),none⟩])
 .ret)
 .skip))
 (.seq
 (.reg [] [⟨some 4,.mov (.cst (.d (.int .i64 0))),none⟩])
 .ret)))⟩
def ir91:AFun:=⟨16,0,[.tmp 6],
 (.seq
 (.reg [] [⟨some 6,.mov (.cst (.d (.int .i64 0))),none⟩])
 (.seq
 (.reg [] [⟨some 7,.mov (.tmp 0),none⟩,
 ⟨some 8,.mov (.tmp 1),none⟩,
 ⟨some 9,.cmp .lss (.tmp 7) (.tmp 8),none⟩,
 ⟨some 10,.mov (.tmp 9),none⟩,
 ⟨some 11,.mov (.tmp 0),some (10,false)⟩,
 ⟨some 12,.mov (.tmp 2),some (10,false)⟩,
 ⟨some 13,.cmp .gtr (.tmp 11) (.tmp 12),some (10,false)⟩,
 ⟨some 14,.pick (.tmp 10) (.cst (.d (.bool true))) (.tmp 13),none⟩,
 ⟨some 15,.call 37 [(.tmp 14),(.cst (.d (.int .i64 3)))],none⟩,
 ⟨some 6,.mov (.tmp 15),none⟩])
 .ret))⟩
def ir90:AFun:=⟨15,0,[.tmp 2],
 (.seq
 (.reg [] [⟨some 2,.mov (.cst (.d (.int .i64 0))),none⟩])
 (.seq
 (.seq
 (.reg [] [⟨some 5,.mov (.tmp 0),none⟩,
 ⟨some 6,.len (.tmp 5),none⟩,
 ⟨some 7,.mov (.cst (.d (.int .i64 0))),none⟩])
 (.post [] []
 (.block 0
 (.keep [5,6,7] []
 (.loop
 (.post [5,6,7] []
 (.seq
 (.reg [] [⟨some 8,.cmp .lss (.tmp 7) (.tmp 6),none⟩])
 (.seq
 (.cond (.tmp 8)
 .skip
 (.exit 0))
 (.seq
 (.block 1
 (.seq
 (.reg [] [⟨some 9,.ixa 1 (.tmp 5) (.tmp 7),none⟩,
 ⟨some 10,.ld false 1 (.tmp 9),none⟩,
 ⟨some 4,.mov (.tmp 10),none⟩])
 (.seq
 (.reg [] [⟨some 11,.mov (.tmp 4),none⟩,
 ⟨some 12,.cmp .neq (.tmp 11) (.cst (.d (.int .i64 0))),none⟩])
 (.cond (.tmp 12)
 (.seq
 (.reg [] [⟨some 13,.mov (.tmp 4),none⟩,
 ⟨some 2,.mov (.tmp 13),none⟩])
 .ret)
 .skip))))
 (.reg [] [⟨some 14,.arith .add .i64 (.tmp 7) (.cst (.d (.int .i64 1))),none⟩,
 ⟨some 7,.mov (.tmp 14),none⟩]))))))))))
 (.seq
 (.reg [] [⟨some 2,.mov (.cst (.d (.int .i64 0))),none⟩])
 .ret)))⟩
def ir96:AFun:=⟨19,0,[.tmp 2],
 (.seq
 (.reg [] [⟨some 2,.mov (.cst (.d (.int .i64 0))),none⟩])
 (.seq
 (.seq
 (.reg [] [⟨some 3,.mov (.cst (.d (.int .i64 0))),none⟩])
 (.post [] []
 (.block 0
 (.keep [0,3] []
 (.loop
 (.post [0,3] []
 (.seq
 (.seq
 (.reg [] [⟨some 4,.mov (.tmp 3),none⟩,
 ⟨some 5,.mov (.tmp 0),none⟩,
 ⟨some 6,.len (.tmp 5),none⟩,
 ⟨some 7,.cmp .lss (.tmp 4) (.tmp 6),none⟩])
 (.cond (.tmp 7)
 .skip
 (.exit 0)))
 (.seq
 (.block 1
 (.seq
 (.reg [] [⟨some 10,.mov (.tmp 0),none⟩,
 ⟨some 11,.mov (.tmp 3),none⟩,
 ⟨some 12,.ixa 1 (.tmp 10) (.tmp 11),none⟩,
 ⟨some 13,.ld false 1 (.tmp 12),none⟩,
 ⟨some 14,.cmp .neq (.tmp 13) (.cst (.d (.int .i64 0))),none⟩])
 (.cond (.tmp 14)
 (.seq
 (.reg [] [⟨some 15,.mov (.tmp 0),none⟩,
 ⟨some 16,.mov (.tmp 3),none⟩,
 ⟨some 17,.ixa 1 (.tmp 15) (.tmp 16),none⟩,
 ⟨some 18,.ld false 1 (.tmp 17),none⟩,
 ⟨some 2,.mov (.tmp 18),none⟩])
 .ret)
 .skip)))
 (.reg [] [⟨some 8,.mov (.tmp 3),none⟩,
 ⟨some 9,.arith .add .i64 (.tmp 8) (.cst (.d (.int .i64 1))),none⟩,
 ⟨some 3,.mov (.tmp 9),none⟩])))))))))
 (.seq
 (.reg [] [⟨some 2,.mov (.cst (.d (.int .i64 0))),none⟩])
 .ret)))⟩
def ir97:AFun:=⟨7,0,[.tmp 4],
 (.seq
 (.reg [] [⟨some 4,.mov (.cst (.d (.int .i64 0))),none⟩])
 (.seq
 (.seq
 (.reg [] [⟨some 5,.mov (.tmp 0),none⟩])
 (.cond (.tmp 5)
 (.seq
 (.reg [] [⟨some 6,.mov (.tmp 1),none⟩,
 ⟨some 4,.mov (.tmp 6),none⟩])
 .ret)
 .skip))
 (.seq
 (.reg [] [⟨some 4,.mov (.cst (.d (.int .i64 0))),none⟩])
 .ret)))⟩
def ir22:AFun:=⟨16,0,[.tmp 6],
 (.seq
 (.reg [] [⟨some 6,.mov (.cst (.d (.int .i64 0))),none⟩])
 (.seq
 (.reg [] [⟨some 7,.mov (.tmp 0),none⟩,
 ⟨some 8,.mov (.tmp 1),none⟩,
 ⟨some 9,.cmp .lss (.tmp 7) (.tmp 8),none⟩,
 ⟨some 10,.mov (.tmp 9),none⟩,
 ⟨some 11,.mov (.tmp 0),some (10,false)⟩,
 ⟨some 12,.mov (.tmp 2),some (10,false)⟩,
 ⟨some 13,.cmp .gtr (.tmp 11) (.tmp 12),some (10,false)⟩,
 ⟨some 14,.pick (.tmp 10) (.cst (.d (.bool true))) (.tmp 13),none⟩,
 ⟨some 15,.call 50 [(.tmp 14),(.cst (.d (.int .i64 3)))],none⟩,
 ⟨some 6,.mov (.tmp 15),none⟩])
 .ret))⟩
def ir123:AFun:=⟨67,0,[.tmp 2],
 (.seq
 (.reg [] [⟨some 2,.mov (.cst (.d (.bool false))),none⟩])
 (.seq
 (.seq
 (.reg [] [⟨some 6,.mov (.tmp 0),none⟩,
 ⟨some 7,.seq false (.tmp 6) (.cst (.d (.str []))),none⟩,
 ⟨some 8,.mov (.tmp 7),none⟩,
 ⟨some 9,.mov (.tmp 0),some (8,false)⟩,
 ⟨some 10,.lens (.tmp 9),some (8,false)⟩,
 ⟨some 11,.cmp .gtr (.tmp 10) (.cst (.d (.int .i64 24))),some (8,false)⟩,
 ⟨some 12,.pick (.tmp 8) (.cst (.d (.bool true))) (.tmp 11),none⟩])
 (.cond (.tmp 12)
 (.seq
 (.reg [] [⟨some 2,.mov (.cst (.d (.bool false))),none⟩])
 .ret)
 .skip))
 (.seq
 (.seq
 (.reg [] [⟨some 3,.mov (.cst (.d (.int .i64 0))),none⟩])
 (.post [] []
 (.block 0
 (.keep [0,3] []
 (.loop
 (.post [0,3] []
 (.seq
 (.seq
 (.reg [] [⟨some 13,.mov (.tmp 3),none⟩,
 ⟨some 14,.mov (.tmp 0),none⟩,
 ⟨some 15,.lens (.tmp 14),none⟩,
 ⟨some 16,.cmp .lss (.tmp 13) (.tmp 15),none⟩])
 (.cond (.tmp 16)
 .skip
 (.exit 0)))
 (.seq
 (.block 1
 (.seq
 (.reg [] [⟨some 19,.mov (.tmp 0),none⟩,
 ⟨some 20,.mov (.tmp 3),none⟩,
 ⟨some 21,.ixs (.tmp 19) (.tmp 20),none⟩,
 ⟨some 22,.cmp .geq (.tmp 21) (.cst (.d (.int .u8 97))),none⟩,
 ⟨some 23,.mov (.tmp 22),none⟩,
 ⟨some 24,.mov (.tmp 0),some (23,true)⟩,
 ⟨some 25,.mov (.tmp 3),some (23,true)⟩,
 ⟨some 26,.ixs (.tmp 24) (.tmp 25),some (23,true)⟩,
 ⟨some 27,.cmp .leq (.tmp 26) (.cst (.d (.int .u8 122))),some (23,true)⟩,
 ⟨some 28,.pick (.tmp 23) (.tmp 27) (.cst (.d (.bool false))),none⟩,
 ⟨some 29,.mov (.tmp 28),none⟩,
 ⟨some 30,.mov (.tmp 0),some (29,false)⟩,
 ⟨some 31,.mov (.tmp 3),some (29,false)⟩,
 ⟨some 32,.ixs (.tmp 30) (.tmp 31),some (29,false)⟩,
 ⟨some 33,.cmp .geq (.tmp 32) (.cst (.d (.int .u8 65))),some (29,false)⟩,
 ⟨some 34,.mov (.tmp 33),some (29,false)⟩,
 ⟨some 35,.mov (.tmp 0),some (34,true)⟩,
 ⟨some 36,.mov (.tmp 3),some (34,true)⟩,
 ⟨some 37,.ixs (.tmp 35) (.tmp 36),some (34,true)⟩,
 ⟨some 38,.cmp .leq (.tmp 37) (.cst (.d (.int .u8 90))),some (34,true)⟩,
 ⟨some 39,.pick (.tmp 34) (.tmp 38) (.cst (.d (.bool false))),some (29,false)⟩,
 ⟨some 40,.pick (.tmp 29) (.cst (.d (.bool true))) (.tmp 39),none⟩,
 ⟨some 4,.mov (.tmp 40),none⟩])
 (.seq
 (.reg [] [⟨some 41,.mov (.tmp 0),none⟩,
 ⟨some 42,.mov (.tmp 3),none⟩,
 ⟨some 43,.ixs (.tmp 41) (.tmp 42),none⟩,
 ⟨some 44,.cmp .geq (.tmp 43) (.cst (.d (.int .u8 48))),none⟩,
 ⟨some 45,.mov (.tmp 44),none⟩,
 ⟨some 46,.mov (.tmp 0),some (45,true)⟩,
 ⟨some 47,.mov (.tmp 3),some (45,true)⟩,
 ⟨some 48,.ixs (.tmp 46) (.tmp 47),some (45,true)⟩,
 ⟨some 49,.cmp .leq (.tmp 48) (.cst (.d (.int .u8 57))),some (45,true)⟩,
 ⟨some 50,.pick (.tmp 45) (.tmp 49) (.cst (.d (.bool false))),none⟩,
 ⟨some 51,.mov (.tmp 50),none⟩,
 ⟨some 52,.mov (.tmp 0),some (51,false)⟩,
 ⟨some 53,.mov (.tmp 3),some (51,false)⟩,
 ⟨some 54,.ixs (.tmp 52) (.tmp 53),some (51,false)⟩,
 ⟨some 55,.cmp .eql (.tmp 54) (.cst (.d (.int .u8 95))),some (51,false)⟩,
 ⟨some 56,.pick (.tmp 51) (.cst (.d (.bool true))) (.tmp 55),none⟩,
 ⟨some 5,.mov (.tmp 56),none⟩])
 (.seq
 (.reg [] [⟨some 57,.mov (.tmp 4),none⟩,
 ⟨some 58,.not (.tmp 57),none⟩,
 ⟨some 59,.mov (.tmp 58),none⟩,
 ⟨some 60,.mov (.tmp 3),some (59,true)⟩,
 ⟨some 61,.cmp .eql (.tmp 60) (.cst (.d (.int .i64 0))),some (59,true)⟩,
 ⟨some 62,.mov (.tmp 61),some (59,true)⟩,
 ⟨some 63,.mov (.tmp 5),some (62,false)⟩,
 ⟨some 64,.not (.tmp 63),some (62,false)⟩,
 ⟨some 65,.pick (.tmp 62) (.cst (.d (.bool true))) (.tmp 64),some (59,true)⟩,
 ⟨some 66,.pick (.tmp 59) (.tmp 65) (.cst (.d (.bool false))),none⟩])
 (.cond (.tmp 66)
 (.seq
 (.reg [] [⟨some 2,.mov (.cst (.d (.bool false))),none⟩])
 .ret)
 .skip)))))
 (.reg [] [⟨some 17,.mov (.tmp 3),none⟩,
 ⟨some 18,.arith .add .i64 (.tmp 17) (.cst (.d (.int .i64 1))),none⟩,
 ⟨some 3,.mov (.tmp 18),none⟩])))))))))
 (.seq
 (.reg [] [⟨some 2,.mov (.cst (.d (.bool true))),none⟩])
 .ret))))⟩
def ir147:AFun:=⟨51,1,[.tmp 2],
 (.seq
 (.reg [] [⟨some 2,.mov (.cst (.d (.bool false))),none⟩])
 (.seq
 (.seq
 (.reg [0] [⟨some 6,.mov (.tmp 0),none⟩,
 ⟨some 7,.rng 0 (.tmp 6),none⟩])
 (.post [0] [0]
 (.block 0
 (.keep [0,7] [0]
 (.loop
 (.post [0,7] []
 (.seq
 (.reg [] [⟨some 8,.nxt (.tmp 7),none⟩,
 ⟨some 9,.ext 0 (.tmp 8),none⟩])
 (.seq
 (.cond (.tmp 9)
 .skip
 (.exit 0))
 (.block 1
 (.seq
 (.reg [] [⟨some 10,.ext 1 (.tmp 8),none⟩,
 ⟨some 11,.ext 2 (.tmp 8),none⟩,
 ⟨some 3,.mov (.tmp 10),none⟩,
 ⟨some 4,.mov (.tmp 11),none⟩])
 (.seq
 (.reg [] [⟨some 12,.mov (.tmp 4),none⟩,
 ⟨some 13,.cmp .geq (.tmp 12) (.cst (.d (.int .i32 97))),none⟩,
 ⟨some 14,.mov (.tmp 13),none⟩,
 ⟨some 15,.mov (.tmp 4),some (14,true)⟩,
 ⟨some 16,.cmp .leq (.tmp 15) (.cst (.d (.int .i32 122))),some (14,true)⟩,
 ⟨some 17,.pick (.tmp 14) (.tmp 16) (.cst (.d (.bool false))),none⟩,
 ⟨some 18,.mov (.tmp 17),none⟩,
 ⟨some 19,.mov (.tmp 4),some (18,false)⟩,
 ⟨some 20,.cmp .geq (.tmp 19) (.cst (.d (.int .i32 65))),some (18,false)⟩,
 ⟨some 21,.mov (.tmp 20),some (18,false)⟩,
 ⟨some 22,.mov (.tmp 4),some (21,true)⟩,
 ⟨some 23,.cmp .leq (.tmp 22) (.cst (.d (.int .i32 90))),some (21,true)⟩,
 ⟨some 24,.pick (.tmp 21) (.tmp 23) (.cst (.d (.bool false))),some (18,false)⟩,
 ⟨some 25,.pick (.tmp 18) (.cst (.d (.bool true))) (.tmp 24),none⟩,
 ⟨some 5,.mov (.tmp 25),none⟩])
 (.seq
 (.reg [] [⟨some 26,.mov (.tmp 5),none⟩,
 ⟨some 27,.not (.tmp 26),none⟩,
 ⟨some 28,.mov (.tmp 27),none⟩,
 ⟨some 29,.mov (.tmp 3),some (28,true)⟩,
 ⟨some 30,.cmp .eql (.tmp 29) (.cst (.d (.int .i64 0))),some (28,true)⟩,
 ⟨some 31,.mov (.tmp 30),some (28,true)⟩,
 ⟨some 32,.mov (.tmp 4),some (31,false)⟩,
 ⟨some 33,.cmp .neq (.tmp 32) (.cst (.d (.int .i32 95))),some (31,false)⟩,
 ⟨some 34,.mov (.tmp 33),some (31,false)⟩,
 ⟨some 35,.mov (.tmp 4),some (34,true)⟩,
 ⟨some 36,.cmp .lss (.tmp 35) (.cst (.d (.int .i32 48))),some (34,true)⟩,
 ⟨some 37,.mov (.tmp 36),some (34,true)⟩,
 ⟨some 38,.mov (.tmp 4),some (37,false)⟩,
 ⟨some 39,.cmp .gtr (.tmp 38) (.cst (.d (.int .i32 57))),some (37,false)⟩,
 ⟨some 40,.pick (.tmp 37) (.cst (.d (.bool true))) (.tmp 39),some (34,true)⟩,
 ⟨some 41,.pick (.tmp 34) (.tmp 40) (.cst (.d (.bool false))),some (31,false)⟩,
 ⟨some 42,.pick (.tmp 31) (.cst (.d (.bool true))) (.tmp 41),some (28,true)⟩,
 ⟨some 43,.pick (.tmp 28) (.tmp 42) (.cst (.d (.bool false))),none⟩])
 (.cond (.tmp 43)
 (.seq
 (.reg [] [⟨some 2,.mov (.cst (.d (.bool false))),none⟩])
 .ret)
 .skip)))))))))))))
 (.seq
 (.reg [] [⟨some 44,.mov (.tmp 0),none⟩,
 ⟨some 45,.seq true (.tmp 44) (.cst (.d (.str []))),none⟩,
 ⟨some 46,.mov (.tmp 45),none⟩,
 ⟨some 47,.mov (.tmp 0),some (46,true)⟩,
 ⟨some 48,.lens (.tmp 47),some (46,true)⟩,
 ⟨some 49,.cmp .leq (.tmp 48) (.cst (.d (.int .i64 24))),some (46,true)⟩,
 ⟨some 50,.pick (.tmp 46) (.tmp 49) (.cst (.d (.bool false))),none⟩,
 ⟨some 2,.mov (.tmp 50),none⟩])
 .ret)))⟩
theorem c92 (c:Bool) (e:Int):CallDet Tryz.prog 37 [.d (.bool c),.d (.int .i64 e)] [.int .i64 (bif c then e else 0)]:=by
 refine call_of_vc (x:=ir92) (by kernel_rfl) rfl ?_
 refine b_intro ?_ ?_
 ·intro h; subst h
  exact rfl
 ·intro h; subst h
  exact rfl
def within3 (x lo hi:Int):Int:=bif decide (x < lo)||decide (hi < x) then 3 else 0
theorem within3_or (x lo hi:Int):within3 x lo hi=0∨within3 x lo hi=3:=by
 unfold within3
 cases decide (x < lo)||decide (hi < x) <;> simp
theorem c91 (x lo hi:Int):CallDet Tryz.prog 73 [.d (.int .i64 x),.d (.int .i64 lo),.d (.int .i64 hi)] [.int .i64 (within3 x lo hi)]:=by
 refine call_of_vc (x:=ir91) (by kernel_rfl) rfl ?_
 refine sd ?_
 refine b_intro ?_ ?_
 ·intro h
  refine sd ?_
  refine ca (c92 _ _) ?_
  have h:decide (x < lo)=true:=h
  rw [within3,h]
  exact rfl
 ·intro h
  refine sd ?_
  refine ca (c92 _ _) ?_
  have h:decide (x < lo)=false:=h
  rw [within3,h]
  exact rfl
def ints (es:List Int):List Data:=es.map (.int .i64)
def firstOf:List Int→Int
 | []=>0
 | e::r=>bif e != 0 then e else firstOf r
theorem ints_get {es:List Int} {k:Nat} {e:Int} (h:es[k]?=some e):(ints es)[(k:Int).toNat]?=some (.int .i64 e):=by
 simp [ints,h]
theorem drop_get {es:List Int} {k:Nat} {e:Int} (h:es[k]?=some e):es.drop k=e::es.drop (k+1):=by
 obtain ⟨h1,rfl⟩:=List.getElem?_eq_some_iff.1 h
 exact List.drop_eq_getElem_cons h1
theorem c90 (es:List Int) (hl:es.length < 9223372036854775807):CallDet Tryz.prog 33 [.d (.slice 1 (ints es))] [.int .i64 (firstOf es)]:=by
 refine call_of_vc (x:=ir90) (by kernel_rfl) rfl ?_
 refine loop_st (fun k:Nat=>⟨[(5,.d (.slice 1 (ints es))),(6,.d (.int .i64 (ints es).length)),(7,.d (.int .i64 k))],[]⟩)
  (fun k=>firstOf es=firstOf (es.drop k)) (fun k=>es.length - k) 0 rfl rfl ?_
 intro k hk
 refine sd ?_
 refine b_intro ?_ ?_
 ·intro h
  have h:(k:Int) < (ints es).length:=of_decide_eq_true h
  have h1:k < es.length:=by simp [ints] at h; exact h
  obtain ⟨e,he⟩:∃ e,es[k]?=some e:=⟨_,List.getElem?_eq_getElem h1⟩
  refine ix_at (ints_get he) (by omega) ?_
  refine sd ?_
  refine b_intro ?_ ?_
  ·intro h2
   have h2:(e != 0)=true:=h2
   rw [hk,drop_get he,firstOf,h2]
   exact rfl
  ·intro h2
   have h2:(e != 0)=false:=h2
   refine ar_add (by omega) ?_
   refine ⟨k+1,⟨?_,by omega⟩,rfl⟩
   rw [hk,drop_get he,firstOf,h2]
   rfl
 ·intro h
  have h:¬ ((k:Int) < (ints es).length):=of_decide_eq_false h
  have h1:es.length≤k:=by simp [ints] at h; exact h
  rw [hk,List.drop_eq_nil_of_le h1]
  exact rfl
theorem c96 (es:List Int) (hl:es.length < 9223372036854775807):CallDet Tryz.prog 79 [.d (.slice 1 (ints es))] [.int .i64 (firstOf es)]:=by
 refine call_of_vc (x:=ir96) (by kernel_rfl) rfl ?_
 refine loop_st (fun k:Nat=>⟨[(0,.d (.slice 1 (ints es))),(3,.d (.int .i64 k))],[]⟩)
  (fun k=>firstOf es=firstOf (es.drop k)) (fun k=>es.length - k) 0 rfl rfl ?_
 intro k hk
 have hlen:(ints es).length=es.length:=by simp [ints]
 refine sd ?_
 refine b_intro ?_ ?_
 ·intro h
  have h:(k:Int) < (ints es).length:=of_decide_eq_true h
  have h1:k < es.length:=by omega
  obtain ⟨e,he⟩:∃ e,es[k]?=some e:=⟨_,List.getElem?_eq_getElem h1⟩
  refine ix_at (ints_get he) (by omega) ?_
  refine sd ?_
  refine b_intro ?_ ?_
  ·intro h2
   have h2:(e != 0)=true:=h2
   refine ix_at (ints_get he) (by omega) ?_
   rw [hk,drop_get he,firstOf,h2]
   exact rfl
  ·intro h2
   have h2:(e != 0)=false:=h2
   refine ar_add (by omega) ?_
   refine ⟨k+1,⟨?_,by omega⟩,rfl⟩
   rw [hk,drop_get he,firstOf,h2]
   rfl
 ·intro h
  have h:¬ ((k:Int) < (ints es).length):=of_decide_eq_false h
  rw [hk,List.drop_eq_nil_of_le (by omega)]
  exact rfl
theorem c97 (c:Bool) (e:Int):CallDet Tryz.prog 50 [.d (.bool c),.d (.int .i64 e)] [.int .i64 (bif c then e else 0)]:=by
 refine call_of_vc (x:=ir97) (by kernel_rfl) rfl ?_
 refine b_intro ?_ ?_
 ·intro h; subst h
  exact rfl
 ·intro h; subst h
  exact rfl
theorem c22 (x lo hi:Int):CallDet Tryz.prog 81 [.d (.int .i64 x),.d (.int .i64 lo),.d (.int .i64 hi)] [.int .i64 (within3 x lo hi)]:=by
 refine call_of_vc (x:=ir22) (by kernel_rfl) rfl ?_
 refine sd ?_
 refine b_intro ?_ ?_
 ·intro h
  refine sd ?_
  refine ca (c97 _ _) ?_
  have h:decide (x < lo)=true:=h
  rw [within3,h]
  exact rfl
 ·intro h
  refine sd ?_
  refine ca (c97 _ _) ?_
  have h:decide (x < lo)=false:=h
  rw [within3,h]
  exact rfl
theorem ar_is {o : BinOp} {a b r : Int} {K : Int → Prop} (h : arithF o .i64 a b = some r) (hK : K r) :
  ∃ r,(IntKind.i64=IntKind.i64∧IntKind.i64=IntKind.i64∧arithF o .i64 a b=some r)∧K r:=⟨r,⟨rfl,rfl,h⟩,hK⟩
theorem sub1_i64 {n:Int} (h:-9223372036854775808≤n∧n≤9223372036854775807):∃ r,arithF .sub .i64 n 1=some r∧(n≠-9223372036854775808→r=n - 1):=by
 by_cases e:n=-9223372036854775808
 ·subst e
  exact ⟨9223372036854775807,rfl,fun h=>absurd rfl h⟩
 ·exact ⟨n - 1,by simp only [arithF,IntWalk.i64_in _ (show -9223372036854775808≤n - 1∧n - 1≤9223372036854775807 by omega)],fun _=>rfl⟩
theorem firstOf_zero:∀ {es:List Int},firstOf es=0→∀ e∈es,e=0
 | [],_,e,he=>absurd he List.not_mem_nil
 | x::r,h,e,he=>by
  simp only [firstOf] at h
  cases hx:x != 0
  ·rw [hx] at h
   rcases List.mem_cons.1 he with rfl | he
   ·simpa using hx
   ·exact firstOf_zero h e he
  ·rw [hx] at h
   have h:x=0:=h
   subst h
   cases hx
theorem take_one {α:Type} {l:List α} {k:Nat} {x:α} (h:l[k]?=some x):l.take (k+1)=l.take k++[x]:=by
 rw [List.take_add_one,h]; rfl
theorem take_map_succ {α β:Type} {l:List α} {k:Nat} {x:α} (f:α→β) (h:l[k]?=some x):(l.take (k+1)).map f=(l.take k).map f++[f x]:=by
 rw [List.take_add_one,h]; simp
theorem within_ok {n a b:Int} (h:within3 n a b=0):a≤n∧n≤b:=by
 unfold within3 at h
 rcases Bool.eq_false_or_eq_true (decide (n < a)||decide (b < n)) with e | e
 ·rw [e] at h; cases h
 ·rw [Bool.or_eq_false_iff] at e
  have:=of_decide_eq_false e.1
  have:=of_decide_eq_false e.2
  omega
theorem b_le {a b:Int} {x y:Prop} (h1:a≤b→x) (h2:¬ a≤b→y):brk (decide (a≤b)) x y :=
 b_intro (fun h=>h1 (of_decide_eq_true h)) (fun h=>h2 (of_decide_eq_false h))
theorem b_lt {a b:Int} {x y:Prop} (h1:a < b→x) (h2:¬ a < b→y):brk (decide (a < b)) x y :=
 b_intro (fun h=>h1 (of_decide_eq_true h)) (fun h=>h2 (of_decide_eq_false h))
theorem b_eq {a b:Int} {x y:Prop} (h1:a=b→x) (h2:¬ a=b→y):brk (a==b) x y :=
 b_intro (fun h=>h1 (eq_of_beq h)) (fun h=>h2 (ne_of_beq_false h))
theorem b_ne {a b:Int} {x y:Prop} (h1:¬ a=b→x) (h2:a=b→y):brk (a != b) x y :=
 b_intro (fun h=>h1 (by simpa using h)) (fun h=>h2 (by simpa using h))
theorem b_nle {a b:Int} {x y:Prop} (h1:¬ a≤b→x) (h2:a≤b→y):brk (!(decide (a≤b))) x y :=
 b_intro (fun h=>h1 (by simpa using h)) (fun h=>h2 (by simpa using h))
theorem b_nlt {a b:Int} {x y:Prop} (h1:¬ a < b→x) (h2:a < b→y):brk (!(decide (a < b))) x y :=
 b_intro (fun h=>h1 (by simpa using h)) (fun h=>h2 (by simpa using h))
def okP (k:Nat) (c:Int):Prop:=(97≤c∧c≤122)∨(65≤c∧c≤90)∨(k≠0∧((48≤c∧c≤57)∨c=95))
instance (k : Nat) (c : Int) : Decidable (okP k c) := by unfold okP; infer_instance
def nmGo:Nat→List UInt8→Bool
 | _,[]=>true
 | k,c::r=>decide (okP k c.toNat)&&nmGo (k+1) r
def isNm (l:List UInt8):Bool:=(l != [])&&(decide ((l.length:Int)≤24)&&nmGo 0 l)
theorem decA_ascii {l:List UInt8} {pos:Nat} {c:UInt8} (h:l[pos]?=some c) (hc:c.toNat < 128):decA l pos=(c.toNat,1):=by
 obtain ⟨hl,e⟩:=List.getElem?_eq_some_iff.1 h
 have e2:((⟨l.toArray⟩:ByteArray)[pos]'hl)=c:=e
 have:=decode_ascii (⟨l.toArray⟩:ByteArray) pos hl (by rw [e2]; exact hc)
 rw [e2] at this
 exact this
theorem decA_high {l:List UInt8} {pos:Nat} {c:UInt8} (h:l[pos]?=some c) (hc:128≤c.toNat):128≤(decA l pos).1∧1≤(decA l pos).2:=by
 obtain ⟨hl,e⟩:=List.getElem?_eq_some_iff.1 h
 have e2:((⟨l.toArray⟩:ByteArray)[pos]'hl)=c:=e
 exact decode_high (⟨l.toArray⟩:ByteArray) pos hl (by rw [e2]; exact hc)
theorem nmGo_at {l:List UInt8} {k:Nat} {c:UInt8} (h:l[k]?=some c):nmGo k (l.drop k)=(decide (okP k c.toNat)&&nmGo (k+1) (l.drop (k+1))):=by
 obtain ⟨hl,e⟩:=List.getElem?_eq_some_iff.1 h
 rw [List.drop_eq_getElem_cons hl,e]; rfl
theorem nm_bad {l:List UInt8} {k:Nat} {c:UInt8} (h:l[k]?=some c) (hi:nmGo 0 l=nmGo k (l.drop k)) (hn:¬ okP k c.toNat):resV [.bool false]=resV [.bool (isNm l)]:=by
 unfold isNm
 rw [hi,nmGo_at h,decide_eq_false hn]; simp
theorem nm_step {l:List UInt8} {k:Nat} {c:UInt8} (h:l[k]?=some c) (hi:nmGo 0 l=nmGo k (l.drop k)) (hn:okP k c.toNat):nmGo 0 l=nmGo (k+1) (l.drop (k+1)):=by
 rw [hi,nmGo_at h,decide_eq_true hn]; rfl
theorem nm_end {l:List UInt8} {k:Nat} (hk:l.length≤k) (hi:nmGo 0 l=nmGo k (l.drop k)):isNm l=((l != [])&&decide ((l.length:Int)≤24)):=by
 unfold isNm
 rw [hi,List.drop_eq_nil_of_le hk]; simp [nmGo]
theorem nm_long {l:List UInt8} (h:(24:Int) < (l.length:Int)):isNm l=false:=by
 unfold isNm; rw [decide_eq_false (by omega)]; simp
set_option maxHeartbeats 4000000 in
theorem c147 (l:List UInt8):CallDet Tryz.prog 66 [.d (.str l)] [.bool (isNm l)]:=by
 refine call_of_vc (x:=ir147) (by kernel_rfl) rfl ?_
 refine loop_st (fun pos:Nat=>⟨[(0,.d (.str l)),(7,.it 0)],[.sit l pos]⟩)
  (fun pos=>nmGo 0 l=nmGo pos (l.drop pos)) (fun pos=>l.length - pos) 0 rfl rfl ?_
 intro pos hi
 rcases Nat.lt_or_ge pos l.length with hl | hl
 ·refine Exists.elim (⟨_,List.getElem?_eq_getElem hl⟩:∃ x,l[pos]?=some x) fun c hc=>?_
  refine Exists.intro _ (Exists.intro _ (And.intro (Or.inl ⟨hl,rfl,rfl⟩) ?_))
  have hdec:(((decA l pos).1:Int)=(c.toNat:Int)∧(decA l pos).2=1)∨((128:Int)≤((decA l pos).1:Int)∧(128:Int)≤(c.toNat:Int)):=by
   rcases Nat.lt_or_ge c.toNat 128 with h | h
   ·exact .inl (by rw [decA_ascii hc h]; exact ⟨rfl,rfl⟩)
   ·exact .inr (by have:=(decA_high hc h).1; omega)
  have bad:¬ okP pos ((decA l pos).1:Int)→resV [.bool false]=resV [.bool (isNm l)]:=fun h=>nm_bad hc hi (by unfold okP at *; omega)
  have good:okP pos ((decA l pos).1:Int)→∃ a',(nmGo 0 l=nmGo a' (l.drop a')∧l.length - a' < l.length - pos)∧(⟨[(0,.d (.str l)),(7,.it 0)],[.sit l (((pos+(decA l pos).2:Nat):Int)).toNat]⟩:St)=⟨[(0,.d (.str l)),(7,.it 0)],[.sit l a']⟩:=fun h=>by
   have h2:((decA l pos).1:Int)=(c.toNat:Int)∧(decA l pos).2=1:=by
    rcases hdec with h3 | h3
    ·exact h3
    ·unfold okP at h; omega
   rw [h2.2]
   rw [h2.1] at h
   exact ⟨pos+1,⟨nm_step hc hi h,by omega⟩,rfl⟩
  generalize hr:((decA l pos).1:Int)=r at *
  clear hdec
  refine sd ?_
  refine b_le (fun t1=>?_) (fun t1=>?_)
  ·refine sd ?_
   refine b_le (fun t2=>?_) (fun t2=>?_)
   ·refine sd ?_
    refine sd ?_
    exact good (by unfold okP; omega)
   ·refine sd ?_
    refine b_le (fun t3=>?_) (fun t3=>?_)
    ·refine sd ?_
     refine b_nle (fun t4=>?_) (fun t4=>?_)
     ·refine sd ?_
      refine b_eq (fun t5=>?_) (fun t5=>?_)
      ·refine sd ?_
       exact bad (by unfold okP; omega)
      ·refine sd ?_
       refine b_ne (fun t6=>?_) (fun t6=>?_)
       ·refine sd ?_
        refine b_lt (fun t7=>?_) (fun t7=>?_)
        ·refine sd ?_
         exact bad (by unfold okP; omega)
        ·refine sd ?_
         refine b_lt (fun t8=>?_) (fun t8=>?_)
         ·exact bad (by unfold okP; omega)
         ·exact good (by unfold okP; omega)
       ·refine sd ?_
        exact good (by unfold okP; omega)
     ·refine sd ?_
      exact good (by unfold okP; omega)
    ·refine sd ?_
     refine sd ?_
     refine b_eq (fun t9=>?_) (fun t9=>?_)
     ·refine sd ?_
      exact bad (by unfold okP; omega)
     ·refine sd ?_
      refine b_ne (fun t10=>?_) (fun t10=>?_)
      ·refine sd ?_
       refine b_lt (fun t11=>?_) (fun t11=>?_)
       ·refine sd ?_
        exact bad (by unfold okP; omega)
       ·refine sd ?_
        refine b_lt (fun t12=>?_) (fun t12=>?_)
        ·exact bad (by unfold okP; omega)
        ·exact good (by unfold okP; omega)
      ·refine sd ?_
       exact good (by unfold okP; omega)
  ·refine sd ?_
   refine sd ?_
   refine b_le (fun t13=>?_) (fun t13=>?_)
   ·refine sd ?_
    refine b_nle (fun t14=>?_) (fun t14=>?_)
    ·refine sd ?_
     refine b_eq (fun t15=>?_) (fun t15=>?_)
     ·refine sd ?_
      exact bad (by unfold okP; omega)
     ·refine sd ?_
      refine b_ne (fun t16=>?_) (fun t16=>?_)
      ·refine sd ?_
       refine b_lt (fun t17=>?_) (fun t17=>?_)
       ·refine sd ?_
        exact bad (by unfold okP; omega)
       ·refine sd ?_
        refine b_lt (fun t18=>?_) (fun t18=>?_)
        ·exact bad (by unfold okP; omega)
        ·exact good (by unfold okP; omega)
      ·refine sd ?_
       exact good (by unfold okP; omega)
    ·refine sd ?_
     exact good (by unfold okP; omega)
   ·refine sd ?_
    refine sd ?_
    refine b_eq (fun t19=>?_) (fun t19=>?_)
    ·refine sd ?_
     exact bad (by unfold okP; omega)
    ·refine sd ?_
     refine b_ne (fun t20=>?_) (fun t20=>?_)
     ·refine sd ?_
      refine b_lt (fun t21=>?_) (fun t21=>?_)
      ·refine sd ?_
       exact bad (by unfold okP; omega)
      ·refine sd ?_
       refine b_lt (fun t22=>?_) (fun t22=>?_)
       ·exact bad (by unfold okP; omega)
       ·exact good (by unfold okP; omega)
     ·refine sd ?_
      exact good (by unfold okP; omega)
 ·refine Exists.intro _ (Exists.intro _ (And.intro (Or.inr ⟨hl,rfl,rfl⟩) ?_))
  have e:=nm_end hl hi
  have fin:∀ b:Bool,isNm l=b→resV [.bool b]=resV [.bool (isNm l)]:=fun b h=>by rw [h]
  refine b_intro ?_ ?_
  ·intro h
   have h:(l != [])=true:=h
   refine sd ?_
   exact fin _ (by rw [e,h]; rfl)
  ·intro h
   have h:(l != [])=false:=h
   refine sd ?_
   exact fin _ (by rw [e,h]; rfl)
set_option maxHeartbeats 4000000 in
theorem c123 (l:List UInt8):CallDet Tryz.prog 47 [.d (.str l)] [.bool (isNm l)]:=by
 refine call_of_vc (x:=ir123) (by kernel_rfl) rfl ?_
 have fin:∀ b:Bool,isNm l=b→resV [.bool b]=resV [.bool (isNm l)]:=fun b h=>by rw [h]
 refine b_intro ?_ ?_
 ·intro h
  have h:(l==[])=true:=h
  have e:l=[]:=by simpa using h
  repeat refine sd ?_
  exact fin false (by rw [e]; rfl)
 intro h0
 have h0:(l==[])=false:=h0
 refine sd ?_
 refine b_lt (fun h=>?_) (fun h=>?_)
 ·exact fin _ (nm_long h)
 refine loop_st (fun k:Nat=>⟨[(0,.d (.str l)),(3,.d (.int .i64 k))],[]⟩)
  (fun k=>nmGo 0 l=nmGo k (l.drop k)) (fun k=>l.length - k) 0 rfl rfl ?_
 intro k hi
 refine sd ?_
 refine b_lt (fun hl=>?_) (fun hl=>?_)
 ·have hl:(k:Int) < (l.length:Int):=hl
  refine Exists.elim (⟨_,List.getElem?_eq_getElem (by omega)⟩:∃ x,l[k]?=some x) fun c hc=>?_
  have hx:0≤(k:Int)∧(l[(k:Int).toNat]?).map (fun c=>(c.toNat:Int))=some (c.toNat:Int):=⟨by omega,by rw [show (k:Int).toNat=k from rfl,hc]; rfl⟩
  have bad:¬ okP k (c.toNat:Int)→resV [.bool false]=resV [.bool (isNm l)]:=fun h=>nm_bad hc hi h
  have good:okP k (c.toNat:Int)→∃ a',(nmGo 0 l=nmGo a' (l.drop a')∧l.length - a' < l.length - k)∧(⟨[(0,.d (.str l)),(3,.d (.int .i64 ((k:Int)+1)))],[]⟩:St)=⟨[(0,.d (.str l)),(3,.d (.int .i64 a'))],[]⟩:=fun h =>
   ⟨k+1,⟨nm_step hc hi h,by omega⟩,rfl⟩
  have hb:-9223372036854775808≤(k:Int)+1∧(k:Int)+1≤9223372036854775807:=by omega
  generalize hr:(c.toNat:Int)=r at *
  refine ca hx ?_
  refine sd ?_
  refine b_le (fun t1=>?_) (fun t1=>?_)
  ·refine ca hx ?_
   refine sd ?_
   refine b_le (fun t2=>?_) (fun t2=>?_)
   ·refine sd ?_
    refine ca hx ?_
    refine sd ?_
    refine b_le (fun t3=>?_) (fun t3=>?_)
    ·refine ca hx ?_
     refine sd ?_
     refine b_le (fun t4=>?_) (fun t4=>?_)
     ·refine sd ?_
      refine sd ?_
      refine ar_add hb ?_
      exact good (by unfold okP; omega)
     ·refine ca hx ?_
      refine sd ?_
      refine sd ?_
      refine ar_add hb ?_
      exact good (by unfold okP; omega)
    ·refine sd ?_
     refine ca hx ?_
     refine sd ?_
     refine sd ?_
     refine ar_add hb ?_
     exact good (by unfold okP; omega)
   ·refine ca hx ?_
    refine sd ?_
    refine b_le (fun t5=>?_) (fun t5=>?_)
    ·refine ca hx ?_
     refine sd ?_
     refine ca hx ?_
     refine sd ?_
     refine b_le (fun t6=>?_) (fun t6=>?_)
     ·refine ca hx ?_
      refine sd ?_
      refine b_le (fun t7=>?_) (fun t7=>?_)
      ·refine sd ?_
       refine b_nle (fun t8=>?_) (fun t8=>?_)
       ·refine sd ?_
        refine b_eq (fun t9=>?_) (fun t9=>?_)
        ·refine sd ?_
         exact bad (by unfold okP; omega)
        ·refine ar_add hb ?_
         exact good (by unfold okP; omega)
       ·refine sd ?_
        refine ar_add hb ?_
        exact good (by unfold okP; omega)
      ·refine ca hx ?_
       refine sd ?_
       refine b_nle (fun t10=>?_) (fun t10=>?_)
       ·refine sd ?_
        refine b_eq (fun t11=>?_) (fun t11=>?_)
        ·refine sd ?_
         exact bad (by unfold okP; omega)
        ·refine b_ne (fun t12=>?_) (fun t12=>?_)
         ·exact bad (by unfold okP; omega)
         ·refine ar_add hb ?_
          exact good (by unfold okP; omega)
       ·refine sd ?_
        refine ar_add hb ?_
        exact good (by unfold okP; omega)
     ·refine sd ?_
      refine ca hx ?_
      refine sd ?_
      refine b_nle (fun t13=>?_) (fun t13=>?_)
      ·refine sd ?_
       refine b_eq (fun t14=>?_) (fun t14=>?_)
       ·refine sd ?_
        exact bad (by unfold okP; omega)
       ·refine b_ne (fun t15=>?_) (fun t15=>?_)
        ·exact bad (by unfold okP; omega)
        ·refine ar_add hb ?_
         exact good (by unfold okP; omega)
      ·refine sd ?_
       refine ar_add hb ?_
       exact good (by unfold okP; omega)
    ·refine sd ?_
     refine ca hx ?_
     refine sd ?_
     refine b_le (fun t16=>?_) (fun t16=>?_)
     ·refine ca hx ?_
      refine sd ?_
      refine b_le (fun t17=>?_) (fun t17=>?_)
      ·refine sd ?_
       refine sd ?_
       refine b_eq (fun t18=>?_) (fun t18=>?_)
       ·refine sd ?_
        exact bad (by unfold okP; omega)
       ·refine ar_add hb ?_
        exact good (by unfold okP; omega)
      ·refine ca hx ?_
       refine sd ?_
       refine sd ?_
       refine b_eq (fun t19=>?_) (fun t19=>?_)
       ·refine sd ?_
        exact bad (by unfold okP; omega)
       ·refine b_ne (fun t20=>?_) (fun t20=>?_)
        ·exact bad (by unfold okP; omega)
        ·refine ar_add hb ?_
         exact good (by unfold okP; omega)
     ·refine sd ?_
      refine ca hx ?_
      refine sd ?_
      refine sd ?_
      refine b_eq (fun t21=>?_) (fun t21=>?_)
      ·refine sd ?_
       exact bad (by unfold okP; omega)
      ·refine b_ne (fun t22=>?_) (fun t22=>?_)
       ·exact bad (by unfold okP; omega)
       ·refine ar_add hb ?_
        exact good (by unfold okP; omega)
  ·refine sd ?_
   refine ca hx ?_
   refine sd ?_
   refine b_le (fun t23=>?_) (fun t23=>?_)
   ·refine ca hx ?_
    refine sd ?_
    refine ca hx ?_
    refine sd ?_
    refine b_le (fun t24=>?_) (fun t24=>?_)
    ·refine ca hx ?_
     refine sd ?_
     refine b_le (fun t25=>?_) (fun t25=>?_)
     ·refine sd ?_
      refine b_nle (fun t26=>?_) (fun t26=>?_)
      ·refine sd ?_
       refine b_eq (fun t27=>?_) (fun t27=>?_)
       ·refine sd ?_
        exact bad (by unfold okP; omega)
       ·refine ar_add hb ?_
        exact good (by unfold okP; omega)
      ·refine sd ?_
       refine ar_add hb ?_
       exact good (by unfold okP; omega)
     ·refine ca hx ?_
      refine sd ?_
      refine b_nle (fun t28=>?_) (fun t28=>?_)
      ·refine sd ?_
       refine b_eq (fun t29=>?_) (fun t29=>?_)
       ·refine sd ?_
        exact bad (by unfold okP; omega)
       ·refine b_ne (fun t30=>?_) (fun t30=>?_)
        ·exact bad (by unfold okP; omega)
        ·refine ar_add hb ?_
         exact good (by unfold okP; omega)
      ·refine sd ?_
       refine ar_add hb ?_
       exact good (by unfold okP; omega)
    ·refine sd ?_
     refine ca hx ?_
     refine sd ?_
     refine b_nle (fun t31=>?_) (fun t31=>?_)
     ·refine sd ?_
      refine b_eq (fun t32=>?_) (fun t32=>?_)
      ·refine sd ?_
       exact bad (by unfold okP; omega)
      ·refine b_ne (fun t33=>?_) (fun t33=>?_)
       ·exact bad (by unfold okP; omega)
       ·refine ar_add hb ?_
        exact good (by unfold okP; omega)
     ·refine sd ?_
      refine ar_add hb ?_
      exact good (by unfold okP; omega)
   ·refine sd ?_
    refine ca hx ?_
    refine sd ?_
    refine b_le (fun t34=>?_) (fun t34=>?_)
    ·refine ca hx ?_
     refine sd ?_
     refine b_le (fun t35=>?_) (fun t35=>?_)
     ·refine sd ?_
      refine sd ?_
      refine b_eq (fun t36=>?_) (fun t36=>?_)
      ·refine sd ?_
       exact bad (by unfold okP; omega)
      ·refine ar_add hb ?_
       exact good (by unfold okP; omega)
     ·refine ca hx ?_
      refine sd ?_
      refine sd ?_
      refine b_eq (fun t37=>?_) (fun t37=>?_)
      ·refine sd ?_
       exact bad (by unfold okP; omega)
      ·refine b_ne (fun t38=>?_) (fun t38=>?_)
       ·exact bad (by unfold okP; omega)
       ·refine ar_add hb ?_
        exact good (by unfold okP; omega)
    ·refine sd ?_
     refine ca hx ?_
     refine sd ?_
     refine sd ?_
     refine b_eq (fun t39=>?_) (fun t39=>?_)
     ·refine sd ?_
      exact bad (by unfold okP; omega)
     ·refine b_ne (fun t40=>?_) (fun t40=>?_)
      ·exact bad (by unfold okP; omega)
      ·refine ar_add hb ?_
       exact good (by unfold okP; omega)
 ·have hl:¬ (k:Int) < (l.length:Int):=hl
  refine fin true ?_
  rw [nm_end (by omega) hi,decide_eq_true (by omega),bne,h0]; rfl
def strs (l:List (List UInt8)):List Data:=l.map .str
theorem drop_at {α:Type} {l:List α} {k:Nat} {x:α} (h:l[k]?=some x):l.drop k=x::l.drop (k+1):=by
 obtain ⟨h1,e⟩:=List.getElem?_eq_some_iff.1 h
 rw [List.drop_eq_getElem_cons h1,e]
def ixI (x:Int):List Int→Int→Int
 | [],_=>-1
 | y::r,k=>bif x==y then k else ixI x r (k+1)
theorem ixI_ge (x:Int):∀ (l:List Int) (k:Int),0≤k→decide (0≤ixI x l k)=l.contains x
 | [],k,_=>rfl
 | y::r,k,hk=>by
  simp only [ixI,List.contains_cons]
  rcases Bool.eq_false_or_eq_true (x==y) with h | h
  ·simp [h,hk]
  ·simp only [h,cond_false,Bool.false_or]; exact ixI_ge x r (k+1) (by omega)
end Vc.L
