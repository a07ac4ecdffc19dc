import Derived.Test.YtcplcokecclehaaG12
set_option linter.unusedSectionVars false
set_option linter.unusedVariables false
set_option linter.unusedSimpArgs false
set_option maxRecDepth 10000
namespace Vc
open Go Go.Proofs
def ir140:AFun:=⟨19,0,[.tmp 4],
 (.seq
 (.reg [] [⟨some 4,.mov (.cst (.d (.int .i64 0))),none⟩])
 (.seq
 (.seq
 (.reg [] [⟨some 6,.mov (.tmp 0),none⟩,
 ⟨some 7,.len (.tmp 6),none⟩,
 ⟨some 8,.mov (.cst (.d (.int .i64 0))),none⟩])
 (.post [] []
 (.block 0
 (.keep [0,1,7,8] []
 (.loop
 (.post [0,1,7,8] []
 (.seq
 (.reg [] [⟨some 9,.cmp .lss (.tmp 8) (.tmp 7),none⟩])
 (.seq
 (.cond (.tmp 9)
 .skip
 (.exit 0))
 (.seq
 (.block 1
 (.seq
 (.reg [] [⟨some 10,.mov (.tmp 8),none⟩,
 ⟨some 5,.mov (.tmp 10),none⟩])
 (.seq
 (.reg [] [⟨some 11,.mov (.tmp 1),none⟩,
 ⟨some 12,.mov (.tmp 0),none⟩,
 ⟨some 13,.mov (.tmp 5),none⟩,
 ⟨some 14,.ixa 1 (.tmp 12) (.tmp 13),none⟩,
 ⟨some 15,.ld false 1 (.tmp 14),none⟩,
 ⟨some 16,.cmp .eql (.tmp 11) (.tmp 15),none⟩])
 (.cond (.tmp 16)
 (.seq
 (.reg [] [⟨some 17,.mov (.tmp 5),none⟩,
 ⟨some 4,.mov (.tmp 17),none⟩])
 .ret)
 .skip))))
 (.reg [] [⟨some 18,.arith .add .i64 (.tmp 8) (.cst (.d (.int .i64 1))),none⟩,
 ⟨some 8,.mov (.tmp 18),none⟩]))))))))))
 (.seq
 (.reg [] [⟨some 4,.mov (.cst (.d (.int .i64 (-1)))),none⟩])
 .ret)))⟩
def ir104:AFun:=⟨9,0,[.tmp 4],
 (.seq
 (.reg [] [⟨some 4,.mov (.cst (.d (.bool false))),none⟩])
 (.seq
 (.reg [] [⟨some 5,.mov (.tmp 0),none⟩,
 ⟨some 6,.mov (.tmp 1),none⟩,
 ⟨some 7,.call 74 [(.tmp 5),(.tmp 6)],none⟩,
 ⟨some 8,.cmp .geq (.tmp 7) (.cst (.d (.int .i64 0))),none⟩,
 ⟨some 4,.mov (.tmp 8),none⟩])
 .ret))⟩
structure Rd where
 lost:List Int
 dbl:List Int
 deaf:Bool
def Rd.d (x:Rd):Data:=.agg [.slice 1 (ints x.lost),.slice 1 (ints x.dbl),.bool x.deaf]
def in7 (i:Int):Int:=within3 i 0 7
def chkIx (l:List Int):Int:=firstOf (l.map in7)
def Rd.chk (x:Rd):Int:=firstOf [chkIx x.lost,chkIx x.dbl]
def ixI (x:Int):List Int→Int→Int
 | [],_=>-1
 | y::r,k=>bif x==y then k else ixI x r (k+1)
theorem ixI_ge (x:Int):∀ (l:List Int) (k:Int),0≤k→decide (0≤ixI x l k)=l.contains x
 | [],k,_=>rfl
 | y::r,k,hk=>by
  simp only [ixI,List.contains_cons]
  rcases Bool.eq_false_or_eq_true (x==y) with h | h
  ·simp [h,hk]
  ·simp only [h,cond_false,Bool.false_or]; exact ixI_ge x r (k+1) (by omega)
theorem c140 (l:List Int) (x:Int) (hl:l.length≤1048576):CallDet Try.prog 74 [.d (.slice 1 (ints l)),.d (.int .i64 x)] [.int .i64 (ixI x l 0)]:=by
 have hlen:(ints l).length=l.length:=by simp [ints]
 refine call_of_vc (x:=ir140) (by kernel_rfl) rfl ?_
 refine loop_st (fun k:Nat=>⟨[(0,.d (.slice 1 (ints l))),(1,.d (.int .i64 x)),(7,.d (.int .i64 (ints l).length)),(8,.d (.int .i64 k))],[]⟩)
  (fun k=>ixI x l 0=ixI x (l.drop k) k) (fun k=>l.length - k) 0 rfl rfl ?_
 intro k hk
 refine And.intro rfl ?_
 refine brk_intro ?_ ?_
 ·intro h
  have h:(k:Int) < (ints l).length:=of_decide_eq_true h
  refine Exists.elim (⟨_,List.getElem?_eq_getElem (by omega)⟩:∃ y,l[k]?=some y) fun y hy=>?_
  refine ix_at (ints_get hy) (by omega) ?_
  refine And.intro rfl ?_
  refine brk_intro ?_ ?_
  ·intro h2
   have h2:(x==y)=true:=h2
   have e:ixI x l 0=k:=by rw [hk,drop_at hy,ixI,h2]; rfl
   rw [e]
   exact rfl
  ·intro h2
   have h2:(x==y)=false:=h2
   refine ar_add (by omega) ?_
   refine ⟨k+1,⟨?_,by omega⟩,rfl⟩
   rw [hk,drop_at hy,ixI,h2]
   rfl
 ·intro h
  have h:¬ ((k:Int) < (ints l).length):=of_decide_eq_false h
  have e:ixI x l 0=-1:=by rw [hk,List.drop_eq_nil_of_le (by omega)]; rfl
  rw [e]
  exact rfl
theorem c104 (l:List Int) (x:Int) (hl:l.length≤1048576):CallDet Try.prog 54 [.d (.slice 1 (ints l)),.d (.int .i64 x)] [.bool (l.contains x)]:=by
 refine call_of_vc (x:=ir104) (by kernel_rfl) rfl ?_
 refine Exists.intro _ (And.intro (c140 l x hl) ?_)
 refine And.intro rfl ?_
 rw [← ixI_ge x l 0 (by omega)]
 exact rfl
end Vc
