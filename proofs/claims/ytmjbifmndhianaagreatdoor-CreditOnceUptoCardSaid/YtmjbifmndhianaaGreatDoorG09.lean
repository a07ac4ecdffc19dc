import Derived.Test.YtmjbifmndhianaaGreatDoorG08
import Derived.Test.YtmjbifmndhianaaGreatDoorG05
import Derived.Test.YtmjbifmndhianaaGreatDoorG04
import Derived.Test.YtmjbifmndhianaaGreatDoorRows
import Derived.Laws.RangeAny
set_option linter.unusedSectionVars false
set_option linter.unusedVariables false
set_option linter.unusedSimpArgs false
set_option maxRecDepth 10000
namespace Vc
open Go Go.Proofs Go.RowKit
def ir92:AFun:=⟨7,0,[.tmp 4],
 (.seq
 (.reg [] [⟨some 4,.mov (.cst (.d (.int .i64 0))),none⟩])
 (.seq
 (.seq
 (.reg [] [⟨some 5,.mov (.tmp 0),none⟩])
 (.cond (.tmp 5)
 (.seq
 (.reg [] [⟨some 6,.mov (.tmp 1),none⟩,
 ⟨some 4,.mov (.tmp 6),none⟩])
 .ret)
 .skip))
 (.seq
 (.reg [] [⟨some 4,.mov (.cst (.d (.int .i64 0))),none⟩])
 .ret)))⟩
def ir91:AFun:=⟨16,0,[.tmp 6],
 (.seq
 (.reg [] [⟨some 6,.mov (.cst (.d (.int .i64 0))),none⟩])
 (.seq
 (.reg [] [⟨some 7,.mov (.tmp 0),none⟩,
 ⟨some 8,.mov (.tmp 1),none⟩,
 ⟨some 9,.cmp .lss (.tmp 7) (.tmp 8),none⟩,
 ⟨some 10,.mov (.tmp 9),none⟩,
 ⟨some 11,.mov (.tmp 0),some (10,false)⟩,
 ⟨some 12,.mov (.tmp 2),some (10,false)⟩,
 ⟨some 13,.cmp .gtr (.tmp 11) (.tmp 12),some (10,false)⟩,
 ⟨some 14,.pick (.tmp 10) (.cst (.d (.bool true))) (.tmp 13),none⟩,
 ⟨some 15,.call 92 [(.tmp 14),(.cst (.d (.int .i64 3)))],none⟩,
 ⟨some 6,.mov (.tmp 15),none⟩])
 .ret))⟩
def ir90:AFun:=⟨15,0,[.tmp 2],
 (.seq
 (.reg [] [⟨some 2,.mov (.cst (.d (.int .i64 0))),none⟩])
 (.seq
 (.seq
 (.reg [] [⟨some 5,.mov (.tmp 0),none⟩,
 ⟨some 6,.len (.tmp 5),none⟩,
 ⟨some 7,.mov (.cst (.d (.int .i64 0))),none⟩])
 (.post [] []
 (.block 0
 (.keep [5,6,7] []
 (.loop
 (.post [5,6,7] []
 (.seq
 (.reg [] [⟨some 8,.cmp .lss (.tmp 7) (.tmp 6),none⟩])
 (.seq
 (.cond (.tmp 8)
 .skip
 (.exit 0))
 (.seq
 (.block 1
 (.seq
 (.reg [] [⟨some 9,.ixa 1 (.tmp 5) (.tmp 7),none⟩,
 ⟨some 10,.ld false 1 (.tmp 9),none⟩,
 ⟨some 4,.mov (.tmp 10),none⟩])
 (.seq
 (.reg [] [⟨some 11,.mov (.tmp 4),none⟩,
 ⟨some 12,.cmp .neq (.tmp 11) (.cst (.d (.int .i64 0))),none⟩])
 (.cond (.tmp 12)
 (.seq
 (.reg [] [⟨some 13,.mov (.tmp 4),none⟩,
 ⟨some 2,.mov (.tmp 13),none⟩])
 .ret)
 .skip))))
 (.reg [] [⟨some 14,.arith .add .i64 (.tmp 7) (.cst (.d (.int .i64 1))),none⟩,
 ⟨some 7,.mov (.tmp 14),none⟩]))))))))))
 (.seq
 (.reg [] [⟨some 2,.mov (.cst (.d (.int .i64 0))),none⟩])
 .ret)))⟩
def ir96:AFun:=⟨19,0,[.tmp 2],
 (.seq
 (.reg [] [⟨some 2,.mov (.cst (.d (.int .i64 0))),none⟩])
 (.seq
 (.seq
 (.reg [] [⟨some 3,.mov (.cst (.d (.int .i64 0))),none⟩])
 (.post [] []
 (.block 0
 (.keep [0,3] []
 (.loop
 (.post [0,3] []
 (.seq
 (.seq
 (.reg [] [⟨some 4,.mov (.tmp 3),none⟩,
 ⟨some 5,.mov (.tmp 0),none⟩,
 ⟨some 6,.len (.tmp 5),none⟩,
 ⟨some 7,.cmp .lss (.tmp 4) (.tmp 6),none⟩])
 (.cond (.tmp 7)
 .skip
 (.exit 0)))
 (.seq
 (.block 1
 (.seq
 (.reg [] [⟨some 10,.mov (.tmp 0),none⟩,
 ⟨some 11,.mov (.tmp 3),none⟩,
 ⟨some 12,.ixa 1 (.tmp 10) (.tmp 11),none⟩,
 ⟨some 13,.ld false 1 (.tmp 12),none⟩,
 ⟨some 14,.cmp .neq (.tmp 13) (.cst (.d (.int .i64 0))),none⟩])
 (.cond (.tmp 14)
 (.seq
 (.reg [] [⟨some 15,.mov (.tmp 0),none⟩,
 ⟨some 16,.mov (.tmp 3),none⟩,
 ⟨some 17,.ixa 1 (.tmp 15) (.tmp 16),none⟩,
 ⟨some 18,.ld false 1 (.tmp 17),none⟩,
 ⟨some 2,.mov (.tmp 18),none⟩])
 .ret)
 .skip)))
 (.reg [] [⟨some 8,.mov (.tmp 3),none⟩,
 ⟨some 9,.arith .add .i64 (.tmp 8) (.cst (.d (.int .i64 1))),none⟩,
 ⟨some 3,.mov (.tmp 9),none⟩])))))))))
 (.seq
 (.reg [] [⟨some 2,.mov (.cst (.d (.int .i64 0))),none⟩])
 .ret)))⟩
def ir97:AFun:=⟨7,0,[.tmp 4],
 (.seq
 (.reg [] [⟨some 4,.mov (.cst (.d (.int .i64 0))),none⟩])
 (.seq
 (.seq
 (.reg [] [⟨some 5,.mov (.tmp 0),none⟩])
 (.cond (.tmp 5)
 (.seq
 (.reg [] [⟨some 6,.mov (.tmp 1),none⟩,
 ⟨some 4,.mov (.tmp 6),none⟩])
 .ret)
 .skip))
 (.seq
 (.reg [] [⟨some 4,.mov (.cst (.d (.int .i64 0))),none⟩])
 .ret)))⟩
def ir22:AFun:=⟨16,0,[.tmp 6],
 (.seq
 (.reg [] [⟨some 6,.mov (.cst (.d (.int .i64 0))),none⟩])
 (.seq
 (.reg [] [⟨some 7,.mov (.tmp 0),none⟩,
 ⟨some 8,.mov (.tmp 1),none⟩,
 ⟨some 9,.cmp .lss (.tmp 7) (.tmp 8),none⟩,
 ⟨some 10,.mov (.tmp 9),none⟩,
 ⟨some 11,.mov (.tmp 0),some (10,false)⟩,
 ⟨some 12,.mov (.tmp 2),some (10,false)⟩,
 ⟨some 13,.cmp .gtr (.tmp 11) (.tmp 12),some (10,false)⟩,
 ⟨some 14,.pick (.tmp 10) (.cst (.d (.bool true))) (.tmp 13),none⟩,
 ⟨some 15,.call 97 [(.tmp 14),(.cst (.d (.int .i64 3)))],none⟩,
 ⟨some 6,.mov (.tmp 15),none⟩])
 .ret))⟩
def ir66:AFun:=⟨18,0,[.tmp 4],
 (.seq
 (.reg [] [⟨some 4,.mov (.cst (.d (.bool false))),none⟩])
 (.seq
 (.seq
 (.reg [] [⟨some 5,.mov (.cst (.d (.int .i64 0))),none⟩])
 (.post [] []
 (.block 0
 (.keep [0,1,5] []
 (.loop
 (.post [0,1,5] []
 (.seq
 (.seq
 (.reg [] [⟨some 6,.mov (.tmp 5),none⟩,
 ⟨some 7,.mov (.tmp 0),none⟩,
 ⟨some 8,.len (.tmp 7),none⟩,
 ⟨some 9,.cmp .lss (.tmp 6) (.tmp 8),none⟩])
 (.cond (.tmp 9)
 .skip
 (.exit 0)))
 (.seq
 (.block 1
 (.seq
 (.reg [] [⟨some 12,.mov (.tmp 0),none⟩,
 ⟨some 13,.mov (.tmp 5),none⟩,
 ⟨some 14,.ixa 1 (.tmp 12) (.tmp 13),none⟩,
 ⟨some 15,.ld false 1 (.tmp 14),none⟩,
 ⟨some 16,.mov (.tmp 1),none⟩,
 ⟨some 17,.cmp .eql (.tmp 15) (.tmp 16),none⟩])
 (.cond (.tmp 17)
 (.seq
 (.reg [] [⟨some 4,.mov (.cst (.d (.bool true))),none⟩])
 .ret)
 .skip)))
 (.reg [] [⟨some 10,.mov (.tmp 5),none⟩,
 ⟨some 11,.arith .add .i64 (.tmp 10) (.cst (.d (.int .i64 1))),none⟩,
 ⟨some 5,.mov (.tmp 11),none⟩])))))))))
 (.seq
 (.reg [] [⟨some 4,.mov (.cst (.d (.bool false))),none⟩])
 .ret)))⟩
def ir35:AFun:=⟨26,0,[.tmp 4],
 (.seq
 (.reg [] [⟨some 4,.mov (.cst (.d (.bool false))),none⟩])
 (.seq
 (.seq
 (.reg [] [⟨some 6,.mov (.tmp 0),none⟩,
 ⟨some 7,.len (.tmp 6),none⟩,
 ⟨some 8,.mov (.tmp 1),none⟩,
 ⟨some 9,.len (.tmp 8),none⟩,
 ⟨some 10,.cmp .neq (.tmp 7) (.tmp 9),none⟩])
 (.cond (.tmp 10)
 (.seq
 (.reg [] [⟨some 4,.mov (.cst (.d (.bool false))),none⟩])
 .ret)
 .skip))
 (.seq
 (.seq
 (.reg [] [⟨some 5,.mov (.cst (.d (.int .i64 0))),none⟩])
 (.post [] []
 (.block 0
 (.keep [0,1,5] []
 (.loop
 (.post [0,1,5] []
 (.seq
 (.seq
 (.reg [] [⟨some 11,.mov (.tmp 5),none⟩,
 ⟨some 12,.mov (.tmp 0),none⟩,
 ⟨some 13,.len (.tmp 12),none⟩,
 ⟨some 14,.cmp .lss (.tmp 11) (.tmp 13),none⟩])
 (.cond (.tmp 14)
 .skip
 (.exit 0)))
 (.seq
 (.block 1
 (.seq
 (.regd [] [⟨some 17,.mov (.tmp 0),none⟩,
 ⟨some 18,.mov (.tmp 5),none⟩,
 ⟨some 19,.ixa 1 (.tmp 17) (.tmp 18),none⟩,
 ⟨some 20,.ld false 1 (.tmp 19),none⟩,
 ⟨some 21,.mov (.tmp 1),none⟩,
 ⟨some 22,.mov (.tmp 5),none⟩,
 ⟨some 23,.ixa 1 (.tmp 21) (.tmp 22),none⟩,
 ⟨some 24,.ld false 1 (.tmp 23),none⟩,
 ⟨some 25,.cmp .neq (.tmp 20) (.tmp 24),none⟩] [(0,1),(0,4),(1,4),(2,4),(3,4),(0,5),(1,5),(2,5),(3,5),(4,5),(0,6),(1,6),(2,6),(3,6),(0,7),(1,7),(2,7),(3,7)])
 (.cond (.tmp 25)
 (.seq
 (.reg [] [⟨some 4,.mov (.cst (.d (.bool false))),none⟩])
 .ret)
 .skip)))
 (.reg [] [⟨some 15,.mov (.tmp 5),none⟩,
 ⟨some 16,.arith .add .i64 (.tmp 15) (.cst (.d (.int .i64 1))),none⟩,
 ⟨some 5,.mov (.tmp 16),none⟩])))))))))
 (.seq
 (.reg [] [⟨some 4,.mov (.cst (.d (.bool true))),none⟩])
 .ret))))⟩
def ir147:AFun:=⟨51,1,[.tmp 2],
 (.seq
 (.reg [] [⟨some 2,.mov (.cst (.d (.bool false))),none⟩])
 (.seq
 (.seq
 (.reg [0] [⟨some 6,.mov (.tmp 0),none⟩,
 ⟨some 7,.rng 0 (.tmp 6),none⟩])
 (.post [0] [0]
 (.block 0
 (.keep [0,7] [0]
 (.loop
 (.post [0,7] []
 (.seq
 (.reg [] [⟨some 8,.nxt (.tmp 7),none⟩,
 ⟨some 9,.ext 0 (.tmp 8),none⟩])
 (.seq
 (.cond (.tmp 9)
 .skip
 (.exit 0))
 (.block 1
 (.seq
 (.reg [] [⟨some 10,.ext 1 (.tmp 8),none⟩,
 ⟨some 11,.ext 2 (.tmp 8),none⟩,
 ⟨some 3,.mov (.tmp 10),none⟩,
 ⟨some 4,.mov (.tmp 11),none⟩])
 (.seq
 (.reg [] [⟨some 12,.mov (.tmp 4),none⟩,
 ⟨some 13,.cmp .geq (.tmp 12) (.cst (.d (.int .i32 97))),none⟩,
 ⟨some 14,.mov (.tmp 13),none⟩,
 ⟨some 15,.mov (.tmp 4),some (14,true)⟩,
 ⟨some 16,.cmp .leq (.tmp 15) (.cst (.d (.int .i32 122))),some (14,true)⟩,
 ⟨some 17,.pick (.tmp 14) (.tmp 16) (.cst (.d (.bool false))),none⟩,
 ⟨some 18,.mov (.tmp 17),none⟩,
 ⟨some 19,.mov (.tmp 4),some (18,false)⟩,
 ⟨some 20,.cmp .geq (.tmp 19) (.cst (.d (.int .i32 65))),some (18,false)⟩,
 ⟨some 21,.mov (.tmp 20),some (18,false)⟩,
 ⟨some 22,.mov (.tmp 4),some (21,true)⟩,
 ⟨some 23,.cmp .leq (.tmp 22) (.cst (.d (.int .i32 90))),some (21,true)⟩,
 ⟨some 24,.pick (.tmp 21) (.tmp 23) (.cst (.d (.bool false))),some (18,false)⟩,
 ⟨some 25,.pick (.tmp 18) (.cst (.d (.bool true))) (.tmp 24),none⟩,
 ⟨some 5,.mov (.tmp 25),none⟩])
 (.seq
 (.reg [] [⟨some 26,.mov (.tmp 5),none⟩,
 ⟨some 27,.not (.tmp 26),none⟩,
 ⟨some 28,.mov (.tmp 27),none⟩,
 ⟨some 29,.mov (.tmp 3),some (28,true)⟩,
 ⟨some 30,.cmp .eql (.tmp 29) (.cst (.d (.int .i64 0))),some (28,true)⟩,
 ⟨some 31,.mov (.tmp 30),some (28,true)⟩,
 ⟨some 32,.mov (.tmp 4),some (31,false)⟩,
 ⟨some 33,.cmp .neq (.tmp 32) (.cst (.d (.int .i32 95))),some (31,false)⟩,
 ⟨some 34,.mov (.tmp 33),some (31,false)⟩,
 ⟨some 35,.mov (.tmp 4),some (34,true)⟩,
 ⟨some 36,.cmp .lss (.tmp 35) (.cst (.d (.int .i32 48))),some (34,true)⟩,
 ⟨some 37,.mov (.tmp 36),some (34,true)⟩,
 ⟨some 38,.mov (.tmp 4),some (37,false)⟩,
 ⟨some 39,.cmp .gtr (.tmp 38) (.cst (.d (.int .i32 57))),some (37,false)⟩,
 ⟨some 40,.pick (.tmp 37) (.cst (.d (.bool true))) (.tmp 39),some (34,true)⟩,
 ⟨some 41,.pick (.tmp 34) (.tmp 40) (.cst (.d (.bool false))),some (31,false)⟩,
 ⟨some 42,.pick (.tmp 31) (.cst (.d (.bool true))) (.tmp 41),some (28,true)⟩,
 ⟨some 43,.pick (.tmp 28) (.tmp 42) (.cst (.d (.bool false))),none⟩])
 (.cond (.tmp 43)
 (.seq
 (.reg [] [⟨some 2,.mov (.cst (.d (.bool false))),none⟩])
 .ret)
 .skip)))))))))))))
 (.seq
 (.reg [] [⟨some 44,.mov (.tmp 0),none⟩,
 ⟨some 45,.seq true (.tmp 44) (.cst (.d (.str []))),none⟩,
 ⟨some 46,.mov (.tmp 45),none⟩,
 ⟨some 47,.mov (.tmp 0),some (46,true)⟩,
 ⟨some 48,.lens (.tmp 47),some (46,true)⟩,
 ⟨some 49,.cmp .leq (.tmp 48) (.cst (.d (.int .i64 24))),some (46,true)⟩,
 ⟨some 50,.pick (.tmp 46) (.tmp 49) (.cst (.d (.bool false))),none⟩,
 ⟨some 2,.mov (.tmp 50),none⟩])
 .ret)))⟩
theorem c92 (c:Bool) (e:Int):CallDet Tryz.prog 92 [.d (.bool c),.d (.int .i64 e)] [.int .i64 (bif c then e else 0)]:=by
 refine call_of_vc (x:=ir92) (by kernel_rfl) rfl ?_
 refine b_intro ?_ ?_
 ·intro h; subst h
  exact rfl
 ·intro h; subst h
  exact rfl
def within3 (x lo hi:Int):Int:=bif decide (x < lo)||decide (hi < x) then 3 else 0
theorem within3_or (x lo hi:Int):within3 x lo hi=0∨within3 x lo hi=3:=by
 unfold within3
 cases decide (x < lo)||decide (hi < x) <;> simp
theorem c91 (x lo hi:Int):CallDet Tryz.prog 91 [.d (.int .i64 x),.d (.int .i64 lo),.d (.int .i64 hi)] [.int .i64 (within3 x lo hi)]:=by
 refine call_of_vc (x:=ir91) (by kernel_rfl) rfl ?_
 refine sd ?_
 refine b_intro ?_ ?_
 ·intro h
  refine sd ?_
  refine ca (c92 _ _) ?_
  have h:decide (x < lo)=true:=h
  rw [within3,h]
  exact rfl
 ·intro h
  refine sd ?_
  refine ca (c92 _ _) ?_
  have h:decide (x < lo)=false:=h
  rw [within3,h]
  exact rfl
def ints (es:List Int):List Data:=es.map (.int .i64)
def firstOf:List Int→Int
 | []=>0
 | e::r=>bif e != 0 then e else firstOf r
theorem ints_get {es:List Int} {k:Nat} {e:Int} (h:es[k]?=some e):(ints es)[(k:Int).toNat]?=some (.int .i64 e):=by
 simp [ints,h]
theorem drop_get {es:List Int} {k:Nat} {e:Int} (h:es[k]?=some e):es.drop k=e::es.drop (k+1):=by
 obtain ⟨h1,rfl⟩:=List.getElem?_eq_some_iff.1 h
 exact List.drop_eq_getElem_cons h1
theorem c90 (es:List Int) (hl:es.length < 9223372036854775807):CallDet Tryz.prog 90 [.d (.slice 1 (ints es))] [.int .i64 (firstOf es)]:=by
 refine call_of_vc (x:=ir90) (by kernel_rfl) rfl ?_
 refine loop_st (fun k:Nat=>⟨[(5,.d (.slice 1 (ints es))),(6,.d (.int .i64 (ints es).length)),(7,.d (.int .i64 k))],[]⟩)
  (fun k=>firstOf es=firstOf (es.drop k)) (fun k=>es.length - k) 0 rfl rfl ?_
 intro k hk
 refine sd ?_
 refine b_intro ?_ ?_
 ·intro h
  have h:(k:Int) < (ints es).length:=of_decide_eq_true h
  have h1:k < es.length:=by simp [ints] at h; exact h
  obtain ⟨e,he⟩:∃ e,es[k]?=some e:=⟨_,List.getElem?_eq_getElem h1⟩
  refine ix_at (ints_get he) (by omega) ?_
  refine sd ?_
  refine b_intro ?_ ?_
  ·intro h2
   have h2:(e != 0)=true:=h2
   rw [hk,drop_get he,firstOf,h2]
   exact rfl
  ·intro h2
   have h2:(e != 0)=false:=h2
   refine ar_add (by omega) ?_
   refine ⟨k+1,⟨?_,by omega⟩,rfl⟩
   rw [hk,drop_get he,firstOf,h2]
   rfl
 ·intro h
  have h:¬ ((k:Int) < (ints es).length):=of_decide_eq_false h
  have h1:es.length≤k:=by simp [ints] at h; exact h
  rw [hk,List.drop_eq_nil_of_le h1]
  exact rfl
theorem c96 (es:List Int) (hl:es.length < 9223372036854775807):CallDet Tryz.prog 96 [.d (.slice 1 (ints es))] [.int .i64 (firstOf es)]:=by
 refine call_of_vc (x:=ir96) (by kernel_rfl) rfl ?_
 refine loop_st (fun k:Nat=>⟨[(0,.d (.slice 1 (ints es))),(3,.d (.int .i64 k))],[]⟩)
  (fun k=>firstOf es=firstOf (es.drop k)) (fun k=>es.length - k) 0 rfl rfl ?_
 intro k hk
 have hlen:(ints es).length=es.length:=by simp [ints]
 refine sd ?_
 refine b_intro ?_ ?_
 ·intro h
  have h:(k:Int) < (ints es).length:=of_decide_eq_true h
  have h1:k < es.length:=by omega
  obtain ⟨e,he⟩:∃ e,es[k]?=some e:=⟨_,List.getElem?_eq_getElem h1⟩
  refine ix_at (ints_get he) (by omega) ?_
  refine sd ?_
  refine b_intro ?_ ?_
  ·intro h2
   have h2:(e != 0)=true:=h2
   refine ix_at (ints_get he) (by omega) ?_
   rw [hk,drop_get he,firstOf,h2]
   exact rfl
  ·intro h2
   have h2:(e != 0)=false:=h2
   refine ar_add (by omega) ?_
   refine ⟨k+1,⟨?_,by omega⟩,rfl⟩
   rw [hk,drop_get he,firstOf,h2]
   rfl
 ·intro h
  have h:¬ ((k:Int) < (ints es).length):=of_decide_eq_false h
  rw [hk,List.drop_eq_nil_of_le (by omega)]
  exact rfl
theorem c97 (c:Bool) (e:Int):CallDet Tryz.prog 97 [.d (.bool c),.d (.int .i64 e)] [.int .i64 (bif c then e else 0)]:=by
 refine call_of_vc (x:=ir97) (by kernel_rfl) rfl ?_
 refine b_intro ?_ ?_
 ·intro h; subst h
  exact rfl
 ·intro h; subst h
  exact rfl
theorem c22 (x lo hi:Int):CallDet Tryz.prog 22 [.d (.int .i64 x),.d (.int .i64 lo),.d (.int .i64 hi)] [.int .i64 (within3 x lo hi)]:=by
 refine call_of_vc (x:=ir22) (by kernel_rfl) rfl ?_
 refine sd ?_
 refine b_intro ?_ ?_
 ·intro h
  refine sd ?_
  refine ca (c97 _ _) ?_
  have h:decide (x < lo)=true:=h
  rw [within3,h]
  exact rfl
 ·intro h
  refine sd ?_
  refine ca (c97 _ _) ?_
  have h:decide (x < lo)=false:=h
  rw [within3,h]
  exact rfl
theorem ar_is {o : BinOp} {a b r : Int} {K : Int → Prop} (h : arithF o .i64 a b = some r) (hK : K r) :
  ∃ r,(IntKind.i64=IntKind.i64∧IntKind.i64=IntKind.i64∧arithF o .i64 a b=some r)∧K r:=⟨r,⟨rfl,rfl,h⟩,hK⟩
theorem firstOf_zero:∀ {es:List Int},firstOf es=0→∀ e∈es,e=0
 | [],_,e,he=>absurd he List.not_mem_nil
 | x::r,h,e,he=>by
  simp only [firstOf] at h
  cases hx:x != 0
  ·rw [hx] at h
   rcases List.mem_cons.1 he with rfl | he
   ·simpa using hx
   ·exact firstOf_zero h e he
  ·rw [hx] at h
   have h:x=0:=h
   subst h
   cases hx
theorem take_one {α:Type} {l:List α} {k:Nat} {x:α} (h:l[k]?=some x):l.take (k+1)=l.take k++[x]:=by
 rw [List.take_add_one,h]; rfl
theorem take_map_succ {α β:Type} {l:List α} {k:Nat} {x:α} (f:α→β) (h:l[k]?=some x):(l.take (k+1)).map f=(l.take k).map f++[f x]:=by
 rw [List.take_add_one,h]; simp
theorem within_ok {n a b:Int} (h:within3 n a b=0):a≤n∧n≤b:=by
 unfold within3 at h
 rcases Bool.eq_false_or_eq_true (decide (n < a)||decide (b < n)) with e | e
 ·rw [e] at h; cases h
 ·rw [Bool.or_eq_false_iff] at e
  have:=of_decide_eq_false e.1
  have:=of_decide_eq_false e.2
  omega
theorem b_le {a b:Int} {x y:Prop} (h1:a≤b→x) (h2:¬ a≤b→y):brk (decide (a≤b)) x y :=
 b_intro (fun h=>h1 (of_decide_eq_true h)) (fun h=>h2 (of_decide_eq_false h))
theorem b_lt {a b:Int} {x y:Prop} (h1:a < b→x) (h2:¬ a < b→y):brk (decide (a < b)) x y :=
 b_intro (fun h=>h1 (of_decide_eq_true h)) (fun h=>h2 (of_decide_eq_false h))
theorem b_eq {a b:Int} {x y:Prop} (h1:a=b→x) (h2:¬ a=b→y):brk (a==b) x y :=
 b_intro (fun h=>h1 (eq_of_beq h)) (fun h=>h2 (ne_of_beq_false h))
theorem b_ne {a b:Int} {x y:Prop} (h1:¬ a=b→x) (h2:a=b→y):brk (a != b) x y :=
 b_intro (fun h=>h1 (by simpa using h)) (fun h=>h2 (by simpa using h))
def okP (k:Nat) (c:Int):Prop:=(97≤c∧c≤122)∨(65≤c∧c≤90)∨(k≠0∧((48≤c∧c≤57)∨c=95))
instance (k : Nat) (c : Int) : Decidable (okP k c) := by unfold okP; infer_instance
theorem drop_at {α:Type} {l:List α} {k:Nat} {x:α} (h:l[k]?=some x):l.drop k=x::l.drop (k+1):=by
 obtain ⟨h1,e⟩:=List.getElem?_eq_some_iff.1 h
 rw [List.drop_eq_getElem_cons h1,e]
theorem c35 (a b:List Int) (ha:a.length≤1048576):CallDet Tryz.prog 35 [.d (.slice 1 (ints a)),.d (.slice 1 (ints b))] [.bool (a==b)]:=by
 refine call_of_vc (x:=ir35) (by kernel_rfl) rfl ?_
 have hla:(ints a).length=a.length:=by simp [ints]
 have hlb:(ints b).length=b.length:=by simp [ints]
 refine sd ?_
 refine b_intro ?_ ?_
 ·intro h
  have h:(((ints a).length:Int) != ((ints b).length:Int))=true:=h
  have hn:a.length≠b.length:=fun e=>by rw [hla,hlb,e] at h; simp at h
  have e:(a==b)=false:=by
   simp only [beq_eq_false_iff_ne,ne_eq]
   exact fun e=>hn (congrArg _ e)
  rw [e]
  exact rfl
 ·intro h
  have h:(((ints a).length:Int) != ((ints b).length:Int))=false:=h
  have hl:a.length=b.length:=by rw [hla,hlb] at h; simp at h; omega
  refine loop_st (fun k:Nat=>⟨[(0,.d (.slice 1 (ints a))),(1,.d (.slice 1 (ints b))),(5,.d (.int .i64 k))],[]⟩)
   (fun k=>(a==b)=(a.drop k==b.drop k)) (fun k=>a.length - k) 0 rfl rfl ?_
  intro k hk
  refine sd ?_
  refine b_intro ?_ ?_
  ·intro h
   have h:(k:Int) < (ints a).length:=of_decide_eq_true h
   refine Exists.elim (⟨_,List.getElem?_eq_getElem (by omega)⟩:∃ x,a[k]?=some x) fun x hx=>?_
   refine Exists.elim (⟨_,List.getElem?_eq_getElem (by omega)⟩:∃ y,b[k]?=some y) fun y hy=>?_
   refine ix_at (ints_get hx) (by omega) ?_
   refine ix_at (ints_get hy) (by omega) ?_
   refine sd ?_
   refine b_intro ?_ ?_
   ·intro h2
    have h2:(x != y)=true:=h2
    have e:(a==b)=false:=by
     rw [hk,drop_at hx,drop_at hy]
     simp at h2 ⊢
     exact fun e=>absurd e h2
    rw [e]
    exact rfl
   ·intro h2
    have h2:(x != y)=false:=h2
    have he:x=y:=by simpa using h2
    refine ar_add (by omega) ?_
    refine ⟨k+1,⟨?_,by omega⟩,rfl⟩
    rw [hk,drop_at hx,drop_at hy]
    simp [he]
  ·intro h
   have h:¬ ((k:Int) < (ints a).length):=of_decide_eq_false h
   have e:(a==b)=true:=by
    rw [hk,List.drop_eq_nil_of_le (by omega),List.drop_eq_nil_of_le (by omega)]
    rfl
   rw [e]
   exact rfl
theorem c66 (l:List Int) (x:Int) (hl:l.length≤1048576):CallDet Tryz.prog 66 [.d (.slice 1 (ints l)),.d (.int .i64 x)] [.bool (l.contains x)]:=by
 have hlen:(ints l).length=l.length:=by simp [ints]
 refine call_of_vc (x:=ir66) (by kernel_rfl) rfl ?_
 refine loop_st (fun k:Nat=>⟨[(0,.d (.slice 1 (ints l))),(1,.d (.int .i64 x)),(5,.d (.int .i64 k))],[]⟩)
  (fun k=>l.contains x=(l.drop k).contains x) (fun k=>l.length - k) 0 rfl rfl ?_
 intro k hk
 refine sd ?_
 refine b_intro ?_ ?_
 ·intro h
  have h:(k:Int) < (ints l).length:=of_decide_eq_true h
  refine Exists.elim (⟨_,List.getElem?_eq_getElem (by omega)⟩:∃ y,l[k]?=some y) fun y hy=>?_
  refine ix_at (ints_get hy) (by omega) ?_
  refine sd ?_
  refine b_intro ?_ ?_
  ·intro h2
   have h2:(y==x)=true:=h2
   have e:l.contains x=true:=by
    rw [hk,drop_at hy,List.contains_cons,show (x==y)=true by rw [eq_of_beq h2]; simp]; rfl
   rw [e]
   exact rfl
  ·intro h2
   have h2:(y==x)=false:=h2
   refine ar_add (by omega) ?_
   refine ⟨k+1,⟨?_,by omega⟩,rfl⟩
   have e:l.contains x=(l.drop (k+1)).contains x:=by
    rw [hk,drop_at hy,List.contains_cons,show (x==y)=false by simpa using fun e=>ne_of_beq_false h2 e.symm]; rfl
   exact e
 ·intro h
  have h:¬ ((k:Int) < (ints l).length):=of_decide_eq_false h
  have e:l.contains x=false:=by rw [hk,List.drop_eq_nil_of_le (by omega)]; rfl
  rw [e]
  exact rfl
end Vc
