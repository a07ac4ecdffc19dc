import Derived.Test.YtcplcokecclehaaG04
import Derived.Test.YtcplcokecclehaaG08
import Derived.Test.YtcplcokecclehaaRows
set_option linter.unusedSectionVars false
set_option linter.unusedVariables false
set_option linter.unusedSimpArgs false
set_option maxRecDepth 10000
namespace Vc
open Go Go.Proofs
def ir83:AFun:=⟨7,0,[.tmp 4],
 (.seq
 (.reg [] [⟨some 4,.mov (.cst (.d (.int .i64 0))),none⟩])
 (.seq
 (.seq
 (.reg [] [⟨some 5,.mov (.tmp 0),none⟩])
 (.cond (.tmp 5)
 (.seq
 (.reg [] [⟨some 6,.mov (.tmp 1),none⟩,
 ⟨some 4,.mov (.tmp 6),none⟩])
 .ret)
 .skip))
 (.seq
 (.reg [] [⟨some 4,.mov (.cst (.d (.int .i64 0))),none⟩])
 .ret)))⟩
def ir82:AFun:=⟨16,0,[.tmp 6],
 (.seq
 (.reg [] [⟨some 6,.mov (.cst (.d (.int .i64 0))),none⟩])
 (.seq
 (.reg [] [⟨some 7,.mov (.tmp 0),none⟩,
 ⟨some 8,.mov (.tmp 1),none⟩,
 ⟨some 9,.cmp .lss (.tmp 7) (.tmp 8),none⟩,
 ⟨some 10,.mov (.tmp 9),none⟩,
 ⟨some 11,.mov (.tmp 0),some (10,false)⟩,
 ⟨some 12,.mov (.tmp 2),some (10,false)⟩,
 ⟨some 13,.cmp .gtr (.tmp 11) (.tmp 12),some (10,false)⟩,
 ⟨some 14,.pick (.tmp 10) (.cst (.d (.bool true))) (.tmp 13),none⟩,
 ⟨some 15,.call 37 [(.tmp 14),(.cst (.d (.int .i64 3)))],none⟩,
 ⟨some 6,.mov (.tmp 15),none⟩])
 .ret))⟩
def ir81:AFun:=⟨15,0,[.tmp 2],
 (.seq
 (.reg [] [⟨some 2,.mov (.cst (.d (.int .i64 0))),none⟩])
 (.seq
 (.seq
 (.reg [] [⟨some 5,.mov (.tmp 0),none⟩,
 ⟨some 6,.len (.tmp 5),none⟩,
 ⟨some 7,.mov (.cst (.d (.int .i64 0))),none⟩])
 (.post [] []
 (.block 0
 (.keep [5,6,7] []
 (.loop
 (.post [5,6,7] []
 (.seq
 (.reg [] [⟨some 8,.cmp .lss (.tmp 7) (.tmp 6),none⟩])
 (.seq
 (.cond (.tmp 8)
 .skip
 (.exit 0))
 (.seq
 (.block 1
 (.seq
 (.reg [] [⟨some 9,.ixa 1 (.tmp 5) (.tmp 7),none⟩,
 ⟨some 10,.ld false 1 (.tmp 9),none⟩,
 ⟨some 4,.mov (.tmp 10),none⟩])
 (.seq
 (.reg [] [⟨some 11,.mov (.tmp 4),none⟩,
 ⟨some 12,.cmp .neq (.tmp 11) (.cst (.d (.int .i64 0))),none⟩])
 (.cond (.tmp 12)
 (.seq
 (.reg [] [⟨some 13,.mov (.tmp 4),none⟩,
 ⟨some 2,.mov (.tmp 13),none⟩])
 .ret)
 .skip))))
 (.reg [] [⟨some 14,.arith .add .i64 (.tmp 7) (.cst (.d (.int .i64 1))),none⟩,
 ⟨some 7,.mov (.tmp 14),none⟩]))))))))))
 (.seq
 (.reg [] [⟨some 2,.mov (.cst (.d (.int .i64 0))),none⟩])
 .ret)))⟩
def ir89:AFun:=⟨19,0,[.tmp 2],
 (.seq
 (.reg [] [⟨some 2,.mov (.cst (.d (.int .i64 0))),none⟩])
 (.seq
 (.seq
 (.reg [] [⟨some 3,.mov (.cst (.d (.int .i64 0))),none⟩])
 (.post [] []
 (.block 0
 (.keep [0,3] []
 (.loop
 (.post [0,3] []
 (.seq
 (.seq
 (.reg [] [⟨some 4,.mov (.tmp 3),none⟩,
 ⟨some 5,.mov (.tmp 0),none⟩,
 ⟨some 6,.len (.tmp 5),none⟩,
 ⟨some 7,.cmp .lss (.tmp 4) (.tmp 6),none⟩])
 (.cond (.tmp 7)
 .skip
 (.exit 0)))
 (.seq
 (.block 1
 (.seq
 (.reg [] [⟨some 10,.mov (.tmp 0),none⟩,
 ⟨some 11,.mov (.tmp 3),none⟩,
 ⟨some 12,.ixa 1 (.tmp 10) (.tmp 11),none⟩,
 ⟨some 13,.ld false 1 (.tmp 12),none⟩,
 ⟨some 14,.cmp .neq (.tmp 13) (.cst (.d (.int .i64 0))),none⟩])
 (.cond (.tmp 14)
 (.seq
 (.reg [] [⟨some 15,.mov (.tmp 0),none⟩,
 ⟨some 16,.mov (.tmp 3),none⟩,
 ⟨some 17,.ixa 1 (.tmp 15) (.tmp 16),none⟩,
 ⟨some 18,.ld false 1 (.tmp 17),none⟩,
 ⟨some 2,.mov (.tmp 18),none⟩])
 .ret)
 .skip)))
 (.reg [] [⟨some 8,.mov (.tmp 3),none⟩,
 ⟨some 9,.arith .add .i64 (.tmp 8) (.cst (.d (.int .i64 1))),none⟩,
 ⟨some 3,.mov (.tmp 9),none⟩])))))))))
 (.seq
 (.reg [] [⟨some 2,.mov (.cst (.d (.int .i64 0))),none⟩])
 .ret)))⟩
theorem c83 (c:Bool) (e:Int):CallDet Try.prog 37 [.d (.bool c),.d (.int .i64 e)] [.int .i64 (bif c then e else 0)]:=by
 refine call_of_vc (x:=ir83) (by kernel_rfl) rfl ?_
 refine brk_intro ?_ ?_
 ·intro h; subst h
  exact rfl
 ·intro h; subst h
  exact rfl
theorem c82 (x lo hi:Int):CallDet Try.prog 36 [.d (.int .i64 x),.d (.int .i64 lo),.d (.int .i64 hi)] [.int .i64 (bif decide (x < lo)||decide (hi < x) then 3 else 0)]:=by
 refine call_of_vc (x:=ir82) (by kernel_rfl) rfl ?_
 refine And.intro rfl ?_
 refine brk_intro ?_ ?_
 ·intro h
  refine And.intro rfl ?_
  refine Exists.intro _ (And.intro (c83 _ _) ?_)
  have h:decide (x < lo)=true:=h
  rw [h]
  exact rfl
 ·intro h
  refine And.intro rfl ?_
  refine Exists.intro _ (And.intro (c83 _ _) ?_)
  have h:decide (x < lo)=false:=h
  rw [h]
  exact rfl
def ints (es:List Int):List Data:=es.map (.int .i64)
def firstOf:List Int→Int
 | []=>0
 | e::r=>bif e != 0 then e else firstOf r
theorem ints_get {es:List Int} {k:Nat} {e:Int} (h:es[k]?=some e):(ints es)[(k:Int).toNat]?=some (.int .i64 e):=by
 simp [ints,h]
theorem drop_get {es:List Int} {k:Nat} {e:Int} (h:es[k]?=some e):es.drop k=e::es.drop (k+1):=by
 obtain ⟨h1,rfl⟩:=List.getElem?_eq_some_iff.1 h
 exact List.drop_eq_getElem_cons h1
theorem c81 (es:List Int) (hl:es.length < 9223372036854775807):CallDet Try.prog 33 [.d (.slice 1 (ints es))] [.int .i64 (firstOf es)]:=by
 refine call_of_vc (x:=ir81) (by kernel_rfl) rfl ?_
 refine loop_st (fun k:Nat=>⟨[(5,.d (.slice 1 (ints es))),(6,.d (.int .i64 (ints es).length)),(7,.d (.int .i64 k))],[]⟩)
  (fun k=>firstOf es=firstOf (es.drop k)) (fun k=>es.length - k) 0 rfl rfl ?_
 intro k hk
 refine And.intro rfl ?_
 refine brk_intro ?_ ?_
 ·intro h
  have h:(k:Int) < (ints es).length:=of_decide_eq_true h
  have h1:k < es.length:=by simp [ints] at h; exact h
  obtain ⟨e,he⟩:∃ e,es[k]?=some e:=⟨_,List.getElem?_eq_getElem h1⟩
  refine ix_at (ints_get he) (by omega) ?_
  refine And.intro rfl ?_
  refine brk_intro ?_ ?_
  ·intro h2
   have h2:(e != 0)=true:=h2
   rw [hk,drop_get he,firstOf,h2]
   exact rfl
  ·intro h2
   have h2:(e != 0)=false:=h2
   refine ar_add (by omega) ?_
   refine ⟨k+1,⟨?_,by omega⟩,rfl⟩
   rw [hk,drop_get he,firstOf,h2]
   rfl
 ·intro h
  have h:¬ ((k:Int) < (ints es).length):=of_decide_eq_false h
  have h1:es.length≤k:=by simp [ints] at h; exact h
  rw [hk,List.drop_eq_nil_of_le h1]
  exact rfl
end Vc
set_option maxRecDepth 10000
namespace Vc
open Go Go.Proofs
def byt (c:UInt8):Data:=.int .u8 c.toNat
def fr (m p n:Int) (bs:List UInt8):Data:=.agg [.int .i64 m,.int .i64 p,.int .i64 n,.slice 1 (bs.map byt)]
def within3 (x lo hi:Int):Int:=bif decide (x < lo)||decide (hi < x) then 3 else 0
def checkFrame (m p n:Int) (len:Nat):Int :=
 bif within3 m 0 255 != 0 then 3 else bif within3 n 1 64 != 0 then 3 else bif within3 p 0 (n - 1) != 0 then 3 else bif decide ((12:Int) < len) then 5 else 0
end Vc
set_option maxRecDepth 10000
namespace Vc
open Go Go.Proofs
structure Fr where
 m:Int
 p:Int
 n:Int
 b:List UInt8
def Fr.d (f:Fr):Data:=fr f.m f.p f.n f.b
def frs (l:List Fr):List Data:=l.map Fr.d
theorem take_map_succ {α β:Type} {l:List α} {k:Nat} {x:α} (f:α→β) (h:l[k]?=some x):(l.take (k+1)).map f=(l.take k).map f++[f x]:=by
 rw [List.take_add_one,h]; simp
def Fr.ok (f:Fr):Prop:=-9223372036854775808≤f.n∧f.n≤9223372036854775807
def Fr.check (f:Fr):Int:=checkFrame f.m f.p f.n f.b.length
def checkFrames (l:List Fr):Int:=bif decide ((64:Int) < (l.length:Int)) then 5 else firstOf (l.map Fr.check)
end Vc
set_option maxRecDepth 10000
namespace Vc
open Go Go.Proofs
end Vc
set_option maxRecDepth 10000
namespace Vc
open Go Go.Proofs
def ir66:AFun:=⟨7,0,[.tmp 4],
 (.seq
 (.reg [] [⟨some 4,.mov (.cst (.d (.int .i64 0))),none⟩])
 (.seq
 (.seq
 (.reg [] [⟨some 5,.mov (.tmp 0),none⟩])
 (.cond (.tmp 5)
 (.seq
 (.reg [] [⟨some 6,.mov (.tmp 1),none⟩,
 ⟨some 4,.mov (.tmp 6),none⟩])
 .ret)
 .skip))
 (.seq
 (.reg [] [⟨some 4,.mov (.cst (.d (.int .i64 0))),none⟩])
 .ret)))⟩
def ir62:AFun:=⟨16,0,[.tmp 6],
 (.seq
 (.reg [] [⟨some 6,.mov (.cst (.d (.int .i64 0))),none⟩])
 (.seq
 (.reg [] [⟨some 7,.mov (.tmp 0),none⟩,
 ⟨some 8,.mov (.tmp 1),none⟩,
 ⟨some 9,.cmp .lss (.tmp 7) (.tmp 8),none⟩,
 ⟨some 10,.mov (.tmp 9),none⟩,
 ⟨some 11,.mov (.tmp 0),some (10,false)⟩,
 ⟨some 12,.mov (.tmp 2),some (10,false)⟩,
 ⟨some 13,.cmp .gtr (.tmp 11) (.tmp 12),some (10,false)⟩,
 ⟨some 14,.pick (.tmp 10) (.cst (.d (.bool true))) (.tmp 13),none⟩,
 ⟨some 15,.call 22 [(.tmp 14),(.cst (.d (.int .i64 3)))],none⟩,
 ⟨some 6,.mov (.tmp 15),none⟩])
 .ret))⟩
theorem c89 (es:List Int) (hl:es.length < 9223372036854775807):CallDet Try.prog 21 [.d (.slice 1 (ints es))] [.int .i64 (firstOf es)]:=by
 refine call_of_vc (x:=ir89) (by kernel_rfl) rfl ?_
 refine loop_st (fun k:Nat=>⟨[(0,.d (.slice 1 (ints es))),(3,.d (.int .i64 k))],[]⟩)
  (fun k=>firstOf es=firstOf (es.drop k)) (fun k=>es.length - k) 0 rfl rfl ?_
 intro k hk
 have hlen:(ints es).length=es.length:=by simp [ints]
 refine And.intro rfl ?_
 refine brk_intro ?_ ?_
 ·intro h
  have h:(k:Int) < (ints es).length:=of_decide_eq_true h
  have h1:k < es.length:=by omega
  obtain ⟨e,he⟩:∃ e,es[k]?=some e:=⟨_,List.getElem?_eq_getElem h1⟩
  refine ix_at (ints_get he) (by omega) ?_
  refine And.intro rfl ?_
  refine brk_intro ?_ ?_
  ·intro h2
   have h2:(e != 0)=true:=h2
   refine ix_at (ints_get he) (by omega) ?_
   rw [hk,drop_get he,firstOf,h2]
   exact rfl
  ·intro h2
   have h2:(e != 0)=false:=h2
   refine ar_add (by omega) ?_
   refine ⟨k+1,⟨?_,by omega⟩,rfl⟩
   rw [hk,drop_get he,firstOf,h2]
   rfl
 ·intro h
  have h:¬ ((k:Int) < (ints es).length):=of_decide_eq_false h
  rw [hk,List.drop_eq_nil_of_le (by omega)]
  exact rfl
theorem c66 (c:Bool) (e:Int):CallDet Try.prog 22 [.d (.bool c),.d (.int .i64 e)] [.int .i64 (bif c then e else 0)]:=by
 refine call_of_vc (x:=ir66) (by kernel_rfl) rfl ?_
 refine brk_intro ?_ ?_
 ·intro h; subst h
  exact rfl
 ·intro h; subst h
  exact rfl
theorem c62 (x lo hi:Int):CallDet Try.prog 23 [.d (.int .i64 x),.d (.int .i64 lo),.d (.int .i64 hi)] [.int .i64 (within3 x lo hi)]:=by
 refine call_of_vc (x:=ir62) (by kernel_rfl) rfl ?_
 refine And.intro rfl ?_
 refine brk_intro ?_ ?_
 ·intro h
  refine And.intro rfl ?_
  refine Exists.intro _ (And.intro (c66 _ _) ?_)
  have h:decide (x < lo)=true:=h
  rw [within3,h]
  exact rfl
 ·intro h
  refine And.intro rfl ?_
  refine Exists.intro _ (And.intro (c66 _ _) ?_)
  have h:decide (x < lo)=false:=h
  rw [within3,h]
  exact rfl
end Vc
set_option maxRecDepth 10000
namespace Vc
open Go Go.Proofs
end Vc
set_option maxRecDepth 10000
namespace Vc
open Go Go.Proofs
end Vc
set_option maxRecDepth 10000
namespace Vc
open Go Go.Proofs
def Fr.same (f g:Fr):Bool:=f.m==g.m&&(f.p==g.p&&(f.n==g.n&&f.b==g.b))
theorem drop_at {α:Type} {es:List α} {k:Nat} {e:α} (h:es[k]?=some e):es.drop k=e::es.drop (k+1):=by
 obtain ⟨h1,rfl⟩:=List.getElem?_eq_some_iff.1 h
 exact List.drop_eq_getElem_cons h1
end Vc
set_option maxRecDepth 10000
namespace Vc
open Go Go.Proofs
end Vc
set_option maxRecDepth 10000
namespace Vc
open Go Go.Proofs
end Vc
set_option maxRecDepth 10000
namespace Vc
open Go Go.Proofs
end Vc
set_option maxRecDepth 10000
namespace Vc
open Go Go.Proofs
end Vc
set_option maxRecDepth 10000
namespace Vc
open Go Go.Proofs
end Vc
namespace Vc
open Go Go.Proofs
theorem take_one {α:Type} {l:List α} {k:Nat} {x:α} (h:l[k]?=some x):l.take (k+1)=l.take k++[x]:=by
 rw [List.take_add_one,h]; rfl
theorem firstOf_zero:∀ {es:List Int},firstOf es=0→∀ e∈es,e=0
 | [],_,e,he=>absurd he List.not_mem_nil
 | x::r,h,e,he=>by
  simp only [firstOf] at h
  cases hx:x != 0
  ·rw [hx] at h
   rcases List.mem_cons.1 he with rfl | he
   ·simpa using hx
   ·exact firstOf_zero h e he
  ·rw [hx] at h
   have h:x=0:=h
   subst h
   cases hx
end Vc
set_option maxRecDepth 10000
namespace Vc
open Go Go.Proofs
structure Sn where
 q:List Fr
 a:Int
 w:Int
def Sn.d (s:Sn):Data:=.agg [.slice 4 (frs s.q),.int .i64 s.a,.int .i64 s.w]
structure Rc where
 t:Int
 l:List Fr
def Rc.d (r:Rc):Data:=.agg [.int .i64 r.t,.slice 4 (frs r.l)]
def chkSn (s:Sn):Int:=firstOf [checkFrames s.q,within3 s.a 0 (frs s.q).length,within3 s.w 1 8]
def chkRc (r:Rc):Int:=firstOf [checkFrames r.l,bif (r.t != ((frs r.l).length:Int)) then 2 else 0]
end Vc
