import Derived.Test.YtmffgalmdnpcgaaGreatDoorG08
import Derived.Test.YtmffgalmdnpcgaaGreatDoorG05
import Derived.Test.YtmffgalmdnpcgaaGreatDoorG04
import Derived.Test.YtmffgalmdnpcgaaGreatDoorRows
import Derived.Laws.RangeAny
set_option linter.unusedSectionVars false
set_option linter.unusedVariables false
set_option linter.unusedSimpArgs false
set_option maxRecDepth 10000
namespace Vc
open Go Go.Proofs Go.RowKit
open Go
def ir111:AFun:=⟨7,0,[.tmp 4],
 (.seq
 (.reg [] [⟨some 4,.mov (.cst (.d (.int .i64 0))),none⟩])
 (.seq
 (.seq
 (.reg [] [⟨some 5,.mov (.tmp 0),none⟩])
 (.cond (.tmp 5)
 (.seq
 (.reg [] [⟨some 6,.mov (.tmp 1),none⟩,
 ⟨some 4,.mov (.tmp 6),none⟩])
 .ret)
 .skip))
 (.seq
 (.reg [] [⟨some 4,.mov (.cst (.d (.int .i64 0))),none⟩])
 .ret)))⟩
def ir109:AFun:=⟨16,0,[.tmp 6],
 (.seq
 (.reg [] [⟨some 6,.mov (.cst (.d (.int .i64 0))),none⟩])
 (.seq
 (.reg [] [⟨some 7,.mov (.tmp 0),none⟩,
 ⟨some 8,.mov (.tmp 1),none⟩,
 ⟨some 9,.cmp .lss (.tmp 7) (.tmp 8),none⟩,
 ⟨some 10,.mov (.tmp 9),none⟩,
 ⟨some 11,.mov (.tmp 0),some (10,false)⟩,
 ⟨some 12,.mov (.tmp 2),some (10,false)⟩,
 ⟨some 13,.cmp .gtr (.tmp 11) (.tmp 12),some (10,false)⟩,
 ⟨some 14,.pick (.tmp 10) (.cst (.d (.bool true))) (.tmp 13),none⟩,
 ⟨some 15,.call 111 [(.tmp 14),(.cst (.d (.int .i64 3)))],none⟩,
 ⟨some 6,.mov (.tmp 15),none⟩])
 .ret))⟩
def ir96:AFun:=⟨15,0,[.tmp 2],
 (.seq
 (.reg [] [⟨some 2,.mov (.cst (.d (.int .i64 0))),none⟩])
 (.seq
 (.seq
 (.reg [] [⟨some 5,.mov (.tmp 0),none⟩,
 ⟨some 6,.len (.tmp 5),none⟩,
 ⟨some 7,.mov (.cst (.d (.int .i64 0))),none⟩])
 (.post [] []
 (.block 0
 (.keep [5,6,7] []
 (.loop
 (.post [5,6,7] []
 (.seq
 (.reg [] [⟨some 8,.cmp .lss (.tmp 7) (.tmp 6),none⟩])
 (.seq
 (.cond (.tmp 8)
 .skip
 (.exit 0))
 (.seq
 (.block 1
 (.seq
 (.reg [] [⟨some 9,.ixa 1 (.tmp 5) (.tmp 7),none⟩,
 ⟨some 10,.ld false 1 (.tmp 9),none⟩,
 ⟨some 4,.mov (.tmp 10),none⟩])
 (.seq
 (.reg [] [⟨some 11,.mov (.tmp 4),none⟩,
 ⟨some 12,.cmp .neq (.tmp 11) (.cst (.d (.int .i64 0))),none⟩])
 (.cond (.tmp 12)
 (.seq
 (.reg [] [⟨some 13,.mov (.tmp 4),none⟩,
 ⟨some 2,.mov (.tmp 13),none⟩])
 .ret)
 .skip))))
 (.reg [] [⟨some 14,.arith .add .i64 (.tmp 7) (.cst (.d (.int .i64 1))),none⟩,
 ⟨some 7,.mov (.tmp 14),none⟩]))))))))))
 (.seq
 (.reg [] [⟨some 2,.mov (.cst (.d (.int .i64 0))),none⟩])
 .ret)))⟩
def ir24:AFun:=⟨19,0,[.tmp 2],
 (.seq
 (.reg [] [⟨some 2,.mov (.cst (.d (.int .i64 0))),none⟩])
 (.seq
 (.seq
 (.reg [] [⟨some 3,.mov (.cst (.d (.int .i64 0))),none⟩])
 (.post [] []
 (.block 0
 (.keep [0,3] []
 (.loop
 (.post [0,3] []
 (.seq
 (.seq
 (.reg [] [⟨some 4,.mov (.tmp 3),none⟩,
 ⟨some 5,.mov (.tmp 0),none⟩,
 ⟨some 6,.len (.tmp 5),none⟩,
 ⟨some 7,.cmp .lss (.tmp 4) (.tmp 6),none⟩])
 (.cond (.tmp 7)
 .skip
 (.exit 0)))
 (.seq
 (.block 1
 (.seq
 (.reg [] [⟨some 10,.mov (.tmp 0),none⟩,
 ⟨some 11,.mov (.tmp 3),none⟩,
 ⟨some 12,.ixa 1 (.tmp 10) (.tmp 11),none⟩,
 ⟨some 13,.ld false 1 (.tmp 12),none⟩,
 ⟨some 14,.cmp .neq (.tmp 13) (.cst (.d (.int .i64 0))),none⟩])
 (.cond (.tmp 14)
 (.seq
 (.reg [] [⟨some 15,.mov (.tmp 0),none⟩,
 ⟨some 16,.mov (.tmp 3),none⟩,
 ⟨some 17,.ixa 1 (.tmp 15) (.tmp 16),none⟩,
 ⟨some 18,.ld false 1 (.tmp 17),none⟩,
 ⟨some 2,.mov (.tmp 18),none⟩])
 .ret)
 .skip)))
 (.reg [] [⟨some 8,.mov (.tmp 3),none⟩,
 ⟨some 9,.arith .add .i64 (.tmp 8) (.cst (.d (.int .i64 1))),none⟩,
 ⟨some 3,.mov (.tmp 9),none⟩])))))))))
 (.seq
 (.reg [] [⟨some 2,.mov (.cst (.d (.int .i64 0))),none⟩])
 .ret)))⟩
def ir27:AFun:=⟨7,0,[.tmp 4],
 (.seq
 (.reg [] [⟨some 4,.mov (.cst (.d (.int .i64 0))),none⟩])
 (.seq
 (.seq
 (.reg [] [⟨some 5,.mov (.tmp 0),none⟩])
 (.cond (.tmp 5)
 (.seq
 (.reg [] [⟨some 6,.mov (.tmp 1),none⟩,
 ⟨some 4,.mov (.tmp 6),none⟩])
 .ret)
 .skip))
 (.seq
 (.reg [] [⟨some 4,.mov (.cst (.d (.int .i64 0))),none⟩])
 .ret)))⟩
def ir70:AFun:=⟨16,0,[.tmp 6],
 (.seq
 (.reg [] [⟨some 6,.mov (.cst (.d (.int .i64 0))),none⟩])
 (.seq
 (.reg [] [⟨some 7,.mov (.tmp 0),none⟩,
 ⟨some 8,.mov (.tmp 1),none⟩,
 ⟨some 9,.cmp .lss (.tmp 7) (.tmp 8),none⟩,
 ⟨some 10,.mov (.tmp 9),none⟩,
 ⟨some 11,.mov (.tmp 0),some (10,false)⟩,
 ⟨some 12,.mov (.tmp 2),some (10,false)⟩,
 ⟨some 13,.cmp .gtr (.tmp 11) (.tmp 12),some (10,false)⟩,
 ⟨some 14,.pick (.tmp 10) (.cst (.d (.bool true))) (.tmp 13),none⟩,
 ⟨some 15,.call 27 [(.tmp 14),(.cst (.d (.int .i64 3)))],none⟩,
 ⟨some 6,.mov (.tmp 15),none⟩])
 .ret))⟩
def ir94:AFun:=⟨26,0,[.tmp 4],
 (.seq
 (.reg [] [⟨some 4,.mov (.cst (.d (.bool false))),none⟩])
 (.seq
 (.seq
 (.reg [] [⟨some 6,.mov (.tmp 0),none⟩,
 ⟨some 7,.len (.tmp 6),none⟩,
 ⟨some 8,.mov (.tmp 1),none⟩,
 ⟨some 9,.len (.tmp 8),none⟩,
 ⟨some 10,.cmp .neq (.tmp 7) (.tmp 9),none⟩])
 (.cond (.tmp 10)
 (.seq
 (.reg [] [⟨some 4,.mov (.cst (.d (.bool false))),none⟩])
 .ret)
 .skip))
 (.seq
 (.seq
 (.reg [] [⟨some 5,.mov (.cst (.d (.int .i64 0))),none⟩])
 (.post [] []
 (.block 0
 (.keep [0,1,5] []
 (.loop
 (.post [0,1,5] []
 (.seq
 (.seq
 (.reg [] [⟨some 11,.mov (.tmp 5),none⟩,
 ⟨some 12,.mov (.tmp 0),none⟩,
 ⟨some 13,.len (.tmp 12),none⟩,
 ⟨some 14,.cmp .lss (.tmp 11) (.tmp 13),none⟩])
 (.cond (.tmp 14)
 .skip
 (.exit 0)))
 (.seq
 (.block 1
 (.seq
 (.regd [] [⟨some 17,.mov (.tmp 0),none⟩,
 ⟨some 18,.mov (.tmp 5),none⟩,
 ⟨some 19,.ixa 1 (.tmp 17) (.tmp 18),none⟩,
 ⟨some 20,.ld false 1 (.tmp 19),none⟩,
 ⟨some 21,.mov (.tmp 1),none⟩,
 ⟨some 22,.mov (.tmp 5),none⟩,
 ⟨some 23,.ixa 1 (.tmp 21) (.tmp 22),none⟩,
 ⟨some 24,.ld false 1 (.tmp 23),none⟩,
 ⟨some 25,.cmp .neq (.tmp 20) (.tmp 24),none⟩] [(0,1),(0,4),(1,4),(2,4),(3,4),(0,5),(1,5),(2,5),(3,5),(4,5),(0,6),(1,6),(2,6),(3,6),(0,7),(1,7),(2,7),(3,7)])
 (.cond (.tmp 25)
 (.seq
 (.reg [] [⟨some 4,.mov (.cst (.d (.bool false))),none⟩])
 .ret)
 .skip)))
 (.reg [] [⟨some 15,.mov (.tmp 5),none⟩,
 ⟨some 16,.arith .add .i64 (.tmp 15) (.cst (.d (.int .i64 1))),none⟩,
 ⟨some 5,.mov (.tmp 16),none⟩])))))))))
 (.seq
 (.reg [] [⟨some 4,.mov (.cst (.d (.bool true))),none⟩])
 .ret))))⟩
def ir186:AFun:=⟨9,0,[.tmp 4],
 (.seq
 (.reg [] [⟨some 4,.mov (.cst (.d (.bool false))),none⟩])
 (.seq
 (.reg [] [⟨some 5,.mov (.tmp 0),none⟩,
 ⟨some 6,.mov (.tmp 1),none⟩,
 ⟨some 7,.call 228 [(.tmp 5),(.tmp 6)],none⟩,
 ⟨some 8,.cmp .geq (.tmp 7) (.cst (.d (.int .i64 0))),none⟩,
 ⟨some 4,.mov (.tmp 8),none⟩])
 .ret))⟩
def ir228:AFun:=⟨19,0,[.tmp 4],
 (.seq
 (.reg [] [⟨some 4,.mov (.cst (.d (.int .i64 0))),none⟩])
 (.seq
 (.seq
 (.reg [] [⟨some 6,.mov (.tmp 0),none⟩,
 ⟨some 7,.len (.tmp 6),none⟩,
 ⟨some 8,.mov (.cst (.d (.int .i64 0))),none⟩])
 (.post [] []
 (.block 0
 (.keep [0,1,7,8] []
 (.loop
 (.post [0,1,7,8] []
 (.seq
 (.reg [] [⟨some 9,.cmp .lss (.tmp 8) (.tmp 7),none⟩])
 (.seq
 (.cond (.tmp 9)
 .skip
 (.exit 0))
 (.seq
 (.block 1
 (.seq
 (.reg [] [⟨some 10,.mov (.tmp 8),none⟩,
 ⟨some 5,.mov (.tmp 10),none⟩])
 (.seq
 (.reg [] [⟨some 11,.mov (.tmp 1),none⟩,
 ⟨some 12,.mov (.tmp 0),none⟩,
 ⟨some 13,.mov (.tmp 5),none⟩,
 ⟨some 14,.ixa 1 (.tmp 12) (.tmp 13),none⟩,
 ⟨some 15,.ld false 1 (.tmp 14),none⟩,
 ⟨some 16,.cmp .eql (.tmp 11) (.tmp 15),none⟩])
 (.cond (.tmp 16)
 (.seq
 (.reg [] [⟨some 17,.mov (.tmp 5),none⟩,
 ⟨some 4,.mov (.tmp 17),none⟩])
 .ret)
 .skip))))
 (.reg [] [⟨some 18,.arith .add .i64 (.tmp 8) (.cst (.d (.int .i64 1))),none⟩,
 ⟨some 8,.mov (.tmp 18),none⟩]))))))))))
 (.seq
 (.reg [] [⟨some 4,.mov (.cst (.d (.int .i64 (-1)))),none⟩])
 .ret)))⟩
theorem c111 (c:Bool) (e:Int):CallDet Tryz.prog 111 [.d (.bool c),.d (.int .i64 e)] [.int .i64 (bif c then e else 0)]:=by
 refine call_of_vc (x:=ir111) (by kernel_rfl) rfl ?_
 refine b_intro ?_ ?_
 ·intro h; subst h
  exact rfl
 ·intro h; subst h
  exact rfl
def within3 (x lo hi:Int):Int:=bif decide (x < lo)||decide (hi < x) then 3 else 0
theorem c109 (x lo hi:Int):CallDet Tryz.prog 109 [.d (.int .i64 x),.d (.int .i64 lo),.d (.int .i64 hi)] [.int .i64 (within3 x lo hi)]:=by
 refine call_of_vc (x:=ir109) (by kernel_rfl) rfl ?_
 refine sd ?_
 refine b_intro ?_ ?_
 ·intro h
  refine sd ?_
  refine ca (c111 _ _) ?_
  have h:decide (x < lo)=true:=h
  rw [within3,h]
  exact rfl
 ·intro h
  refine sd ?_
  refine ca (c111 _ _) ?_
  have h:decide (x < lo)=false:=h
  rw [within3,h]
  exact rfl
def ints (es:List Int):List Data:=es.map (.int .i64)
def firstOf:List Int→Int
 | []=>0
 | e::r=>bif e != 0 then e else firstOf r
theorem ints_get {es:List Int} {k:Nat} {e:Int} (h:es[k]?=some e):(ints es)[(k:Int).toNat]?=some (.int .i64 e):=by
 simp [ints,h]
theorem drop_get {es:List Int} {k:Nat} {e:Int} (h:es[k]?=some e):es.drop k=e::es.drop (k+1):=by
 obtain ⟨h1,rfl⟩:=List.getElem?_eq_some_iff.1 h
 exact List.drop_eq_getElem_cons h1
theorem c96 (es:List Int) (hl:es.length < 9223372036854775807):CallDet Tryz.prog 96 [.d (.slice 1 (ints es))] [.int .i64 (firstOf es)]:=by
 refine call_of_vc (x:=ir96) (by kernel_rfl) rfl ?_
 refine loop_st (fun k:Nat=>⟨[(5,.d (.slice 1 (ints es))),(6,.d (.int .i64 (ints es).length)),(7,.d (.int .i64 k))],[]⟩)
  (fun k=>firstOf es=firstOf (es.drop k)) (fun k=>es.length - k) 0 rfl rfl ?_
 intro k hk
 refine sd ?_
 refine b_intro ?_ ?_
 ·intro h
  have h:(k:Int) < (ints es).length:=of_decide_eq_true h
  have h1:k < es.length:=by simp [ints] at h; exact h
  obtain ⟨e,he⟩:∃ e,es[k]?=some e:=⟨_,List.getElem?_eq_getElem h1⟩
  refine ix_at (ints_get he) (by omega) ?_
  refine sd ?_
  refine b_intro ?_ ?_
  ·intro h2
   have h2:(e != 0)=true:=h2
   rw [hk,drop_get he,firstOf,h2]
   exact rfl
  ·intro h2
   have h2:(e != 0)=false:=h2
   refine ar_add (by omega) ?_
   refine ⟨k+1,⟨?_,by omega⟩,rfl⟩
   rw [hk,drop_get he,firstOf,h2]
   rfl
 ·intro h
  have h:¬ ((k:Int) < (ints es).length):=of_decide_eq_false h
  have h1:es.length≤k:=by simp [ints] at h; exact h
  rw [hk,List.drop_eq_nil_of_le h1]
  exact rfl
theorem c24 (es:List Int) (hl:es.length < 9223372036854775807):CallDet Tryz.prog 24 [.d (.slice 1 (ints es))] [.int .i64 (firstOf es)]:=by
 refine call_of_vc (x:=ir24) (by kernel_rfl) rfl ?_
 refine loop_st (fun k:Nat=>⟨[(0,.d (.slice 1 (ints es))),(3,.d (.int .i64 k))],[]⟩)
  (fun k=>firstOf es=firstOf (es.drop k)) (fun k=>es.length - k) 0 rfl rfl ?_
 intro k hk
 have hlen:(ints es).length=es.length:=by simp [ints]
 refine sd ?_
 refine b_intro ?_ ?_
 ·intro h
  have h:(k:Int) < (ints es).length:=of_decide_eq_true h
  have h1:k < es.length:=by omega
  obtain ⟨e,he⟩:∃ e,es[k]?=some e:=⟨_,List.getElem?_eq_getElem h1⟩
  refine ix_at (ints_get he) (by omega) ?_
  refine sd ?_
  refine b_intro ?_ ?_
  ·intro h2
   have h2:(e != 0)=true:=h2
   refine ix_at (ints_get he) (by omega) ?_
   rw [hk,drop_get he,firstOf,h2]
   exact rfl
  ·intro h2
   have h2:(e != 0)=false:=h2
   refine ar_add (by omega) ?_
   refine ⟨k+1,⟨?_,by omega⟩,rfl⟩
   rw [hk,drop_get he,firstOf,h2]
   rfl
 ·intro h
  have h:¬ ((k:Int) < (ints es).length):=of_decide_eq_false h
  rw [hk,List.drop_eq_nil_of_le (by omega)]
  exact rfl
theorem c27 (c:Bool) (e:Int):CallDet Tryz.prog 27 [.d (.bool c),.d (.int .i64 e)] [.int .i64 (bif c then e else 0)]:=by
 refine call_of_vc (x:=ir27) (by kernel_rfl) rfl ?_
 refine b_intro ?_ ?_
 ·intro h; subst h
  exact rfl
 ·intro h; subst h
  exact rfl
theorem c70 (x lo hi:Int):CallDet Tryz.prog 70 [.d (.int .i64 x),.d (.int .i64 lo),.d (.int .i64 hi)] [.int .i64 (within3 x lo hi)]:=by
 refine call_of_vc (x:=ir70) (by kernel_rfl) rfl ?_
 refine sd ?_
 refine b_intro ?_ ?_
 ·intro h
  refine sd ?_
  refine ca (c27 _ _) ?_
  have h:decide (x < lo)=true:=h
  rw [within3,h]
  exact rfl
 ·intro h
  refine sd ?_
  refine ca (c27 _ _) ?_
  have h:decide (x < lo)=false:=h
  rw [within3,h]
  exact rfl
theorem ar_is {o : BinOp} {a b r : Int} {K : Int → Prop} (h : arithF o .i64 a b = some r) (hK : K r) :
  ∃ r,(IntKind.i64=IntKind.i64∧IntKind.i64=IntKind.i64∧arithF o .i64 a b=some r)∧K r:=⟨r,⟨rfl,rfl,h⟩,hK⟩
theorem firstOf_zero:∀ {es:List Int},firstOf es=0→∀ e∈es,e=0
 | [],_,e,he=>absurd he List.not_mem_nil
 | x::r,h,e,he=>by
  simp only [firstOf] at h
  cases hx:x != 0
  ·rw [hx] at h
   rcases List.mem_cons.1 he with rfl | he
   ·simpa using hx
   ·exact firstOf_zero h e he
  ·rw [hx] at h
   have h:x=0:=h
   subst h
   cases hx
theorem take_map_succ {α β:Type} {l:List α} {k:Nat} {x:α} (f:α→β) (h:l[k]?=some x):(l.take (k+1)).map f=(l.take k).map f++[f x]:=by
 rw [List.take_add_one,h]; simp
theorem within_ok {n a b:Int} (h:within3 n a b=0):a≤n∧n≤b:=by
 unfold within3 at h
 rcases Bool.eq_false_or_eq_true (decide (n < a)||decide (b < n)) with e | e
 ·rw [e] at h; cases h
 ·rw [Bool.or_eq_false_iff] at e
  have:=of_decide_eq_false e.1
  have:=of_decide_eq_false e.2
  omega
theorem b_le {a b:Int} {x y:Prop} (h1:a≤b→x) (h2:¬ a≤b→y):brk (decide (a≤b)) x y :=
 b_intro (fun h=>h1 (of_decide_eq_true h)) (fun h=>h2 (of_decide_eq_false h))
theorem b_lt {a b:Int} {x y:Prop} (h1:a < b→x) (h2:¬ a < b→y):brk (decide (a < b)) x y :=
 b_intro (fun h=>h1 (of_decide_eq_true h)) (fun h=>h2 (of_decide_eq_false h))
theorem b_eq {a b:Int} {x y:Prop} (h1:a=b→x) (h2:¬ a=b→y):brk (a==b) x y :=
 b_intro (fun h=>h1 (eq_of_beq h)) (fun h=>h2 (ne_of_beq_false h))
theorem b_ne {a b:Int} {x y:Prop} (h1:¬ a=b→x) (h2:a=b→y):brk (a != b) x y :=
 b_intro (fun h=>h1 (by simpa using h)) (fun h=>h2 (by simpa using h))
theorem drop_at {α:Type} {l:List α} {k:Nat} {x:α} (h:l[k]?=some x):l.drop k=x::l.drop (k+1):=by
 obtain ⟨h1,e⟩:=List.getElem?_eq_some_iff.1 h
 rw [List.drop_eq_getElem_cons h1,e]
end Vc
