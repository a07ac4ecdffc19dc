import Derived.Test.YtcplcokecclehaaG11
import Derived.Test.YtcplcokecclehaaG10
set_option linter.unusedSectionVars false
set_option linter.unusedVariables false
set_option linter.unusedSimpArgs false
set_option maxRecDepth 10000
namespace Vc
open Go Go.Proofs
def chkSt (names:List (List UInt8)) (x:Stn):Int:=firstOf [bif !(isNm x.nm) then 8 else 0,bif names.contains x.nm then 9 else 0,within3 x.pri 0 3,within3 x.fr 0 64,within3 x.wt 0 1000]
def chkGo:List (List UInt8)→List Stn→Int
 | _,[]=>0
 | names,x::r=>bif chkSt names x != 0 then chkSt names x else chkGo (names++[x.nm]) r
def chkStns (l:List Stn):Int:=bif decide ((8:Int) < (l.length:Int)) then 5 else chkGo [] l
def nmsTo (l:List Stn) (k:Nat):List (List UInt8):=(l.take k).map Stn.nm
theorem nmsTo_succ {l:List Stn} {k:Nat} {x:Stn} (h:l[k]?=some x):nmsTo l (k+1)=nmsTo l k++[x.nm]:=by
 rw [nmsTo,take_one h,List.map_append]; rfl
theorem chkGo_at {l:List Stn} {k:Nat} {x:Stn} (h:l[k]?=some x):chkGo (nmsTo l k) (l.drop k)=bif chkSt (nmsTo l k) x != 0 then chkSt (nmsTo l k) x else chkGo (nmsTo l (k+1)) (l.drop (k+1)):=by
 obtain ⟨hl,e⟩:=List.getElem?_eq_some_iff.1 h
 rw [List.drop_eq_getElem_cons hl,e,nmsTo_succ h]; rfl
theorem st_big {l:List Stn} (h:decide ((8:Int) < (l.length:Int))=true):resV [.int .i64 5]=resV [.int .i64 (chkStns l)]:=by unfold chkStns; rw [h]; rfl
theorem st_small {l:List Stn} (h:decide ((8:Int) < (l.length:Int))=false):chkStns l=chkGo (nmsTo l 0) (l.drop 0):=by unfold chkStns; rw [h]; rfl
theorem st_bad {l:List Stn} {k:Nat} {x:Stn} (h:l[k]?=some x) (hi:chkStns l=chkGo (nmsTo l k) (l.drop k)) (hb:(chkSt (nmsTo l k) x != 0)=true):resV [.int .i64 (chkSt (nmsTo l k) x)]=resV [.int .i64 (chkStns l)]:=by
 rw [hi,chkGo_at h,hb]; rfl
theorem st_ok {l:List Stn} {k:Nat} {x:Stn} (h:l[k]?=some x) (hi:chkStns l=chkGo (nmsTo l k) (l.drop k)) (hb:(chkSt (nmsTo l k) x != 0)=false):chkStns l=chkGo (nmsTo l (k+1)) (l.drop (k+1)):=by
 rw [hi,chkGo_at h,hb]; rfl
theorem st_end {l:List Stn} {k:Nat} (hk:l.length≤k) (hi:chkStns l=chkGo (nmsTo l k) (l.drop k)):resV [.int .i64 0]=resV [.int .i64 (chkStns l)]:=by
 rw [hi,List.drop_eq_nil_of_le hk]; rfl
def ir70:AFun:=⟨45,3,[.tmp 2],
 (.seq
 (.reg [] [⟨some 2,.mov (.cst (.d (.int .i64 0))),none⟩])
 (.seq
 (.seq
 (.reg [] [⟨some 7,.mov (.tmp 0),none⟩,
 ⟨some 8,.len (.tmp 7),none⟩,
 ⟨some 9,.cmp .gtr (.tmp 8) (.cst (.d (.int .i64 8))),none⟩])
 (.cond (.tmp 9)
 (.seq
 (.reg [] [⟨some 2,.mov (.cst (.d (.int .i64 5))),none⟩])
 .ret)
 .skip))
 (.seq
 (.reg [0] [⟨some 10,.mkm 0,none⟩,
 ⟨some 3,.mov (.tmp 10),none⟩])
 (.seq
 (.seq
 (.reg [] [⟨some 11,.mov (.tmp 0),none⟩,
 ⟨some 12,.len (.tmp 11),none⟩,
 ⟨some 13,.mov (.cst (.d (.int .i64 0))),none⟩])
 (.post [] [0,1,2]
 (.block 0
 (.keep [3,11,12,13] [0]
 (.loop
 (.post [3,11,12,13] [1,2]
 (.seq
 (.reg [] [⟨some 14,.cmp .lss (.tmp 13) (.tmp 12),none⟩])
 (.seq
 (.cond (.tmp 14)
 .skip
 (.exit 0))
 (.seq
 (.block 1
 (.seq
 (.reg [1] [⟨some 15,.ixa 4 (.tmp 11) (.tmp 13),none⟩,
 ⟨some 16,.ld true 4 (.tmp 15),none⟩,
 ⟨some 5,.alloc 1 [(.d (.str [])),(.d (.int .i64 0)),(.d (.int .i64 0)),(.d (.int .i64 0))],none⟩,
 ⟨none,.st 4 (.tmp 5) (.tmp 16),none⟩])
 (.seq
 (.seq
 (.regd [2] [⟨some 17,.fad 0 (.tmp 5),none⟩,
 ⟨some 18,.ld false 1 (.tmp 17),none⟩,
 ⟨some 19,.call 55 [(.tmp 18)],none⟩,
 ⟨some 20,.not (.tmp 19),none⟩,
 ⟨some 21,.call 37 [(.tmp 20),(.cst (.d (.int .i64 8)))],none⟩,
 ⟨some 22,.mov (.tmp 3),none⟩,
 ⟨some 23,.fad 0 (.tmp 5),none⟩,
 ⟨some 24,.ld false 1 (.tmp 23),none⟩,
 ⟨some 25,.lkp none (.bool false) false (.tmp 22) (.tmp 24),none⟩,
 ⟨some 26,.call 37 [(.tmp 25),(.cst (.d (.int .i64 9)))],none⟩,
 ⟨some 27,.fad 1 (.tmp 5),none⟩,
 ⟨some 28,.ld false 1 (.tmp 27),none⟩,
 ⟨some 29,.call 36 [(.tmp 28),(.cst (.d (.int .i64 0))),(.cst (.d (.int .i64 3)))],none⟩,
 ⟨some 30,.fad 2 (.tmp 5),none⟩,
 ⟨some 31,.ld false 1 (.tmp 30),none⟩,
 ⟨some 32,.call 36 [(.tmp 31),(.cst (.d (.int .i64 0))),(.cst (.d (.int .i64 64)))],none⟩,
 ⟨some 33,.fad 3 (.tmp 5),none⟩,
 ⟨some 34,.ld false 1 (.tmp 33),none⟩,
 ⟨some 35,.call 36 [(.tmp 34),(.cst (.d (.int .i64 0))),(.cst (.d (.int .i64 1000)))],none⟩,
 ⟨some 36,.bsl 2 30 1 5 [(.int .i64 0),(.int .i64 0),(.int .i64 0),(.int .i64 0),(.int .i64 0)] [(0,(.tmp 21)),(1,(.tmp 26)),(2,(.tmp 29)),(3,(.tmp 32)),(4,(.tmp 35))],none⟩,
 ⟨some 37,.call 33 [(.tmp 36)],none⟩,
 ⟨some 6,.mov (.tmp 37),none⟩] [(0,5),(1,5),(2,5),(3,5),(4,5),(0,6),(1,6),(2,6),(3,6),(4,6),(5,6),(0,7),(1,7),(2,7),(3,7),(4,7),(5,7),(0,8),(1,8),(2,8),(3,8),(4,8),(0,10),(1,10),(2,10),(3,10),(4,10),(5,10),(6,10),(7,10),(8,10),(9,10),(0,11),(1,11),(2,11),(3,11),(4,11),(5,11),(6,11),(7,11),(8,11),(9,11),(0,13),(1,13),(2,13),(3,13),(4,13),(5,13),(6,13),(7,13),(8,13),(9,13),(10,13),(11,13),(12,13),(0,14),(1,14),(2,14),(3,14),(4,14),(5,14),(6,14),(7,14),(8,14),(9,14),(10,14),(11,14),(12,14),(0,16),(1,16),(2,16),(3,16),(4,16),(5,16),(6,16),(7,16),(8,16),(9,16),(10,16),(11,16),(12,16),(13,16),(14,16),(15,16),(0,17),(1,17),(2,17),(3,17),(4,17),(5,17),(6,17),(7,17),(8,17),(9,17),(10,17),(11,17),(12,17),(13,17),(14,17),(15,17)])
 (.seq
 (.reg [] [⟨some 38,.mov (.tmp 6),none⟩,
 ⟨some 39,.cmp .neq (.tmp 38) (.cst (.d (.int .i64 0))),none⟩])
 (.cond (.tmp 39)
 (.seq
 (.reg [] [⟨some 40,.mov (.tmp 6),none⟩,
 ⟨some 2,.mov (.tmp 40),none⟩])
 .ret)
 .skip)))
 (.reg [] [⟨some 41,.mov (.tmp 3),none⟩,
 ⟨some 42,.fad 0 (.tmp 5),none⟩,
 ⟨some 43,.ld false 1 (.tmp 42),none⟩,
 ⟨none,.mpu none (.tmp 41) (.tmp 43) (.cst (.d (.bool true))),none⟩]))))
 (.reg [] [⟨some 44,.arith .add .i64 (.tmp 13) (.cst (.d (.int .i64 1))),none⟩,
 ⟨some 13,.mov (.tmp 44),none⟩]))))))))))
 (.seq
 (.reg [] [⟨some 2,.mov (.cst (.d (.int .i64 0))),none⟩])
 .ret)))))⟩
def kmap (l:List Stn) (k:Nat):List (Data × Data):=(nmsTo l k).map fun n=>(.str n,.bool true)
theorem findM_names (s:List UInt8):∀ l:List (List UInt8),findM (.str s) (l.map fun n=>(.str n,.bool true))=if l.contains s then some (.bool true) else none
 | []=>rfl
 | n::r=>by
  show (match dEq (.str s) (.str n) with | true=>some (Data.bool true) | false=>findM (.str s) (r.map fun n=>(.str n,.bool true)))=_
  rw [List.contains_cons,findM_names s r]
  show (match (s==n) with | true=>_ | false=>_)=_
  cases (s==n) <;> simp
theorem putM_names (s:List UInt8):∀ l:List (List UInt8),l.contains s=false→putM (.str s) (.bool true) (l.map fun n=>(.str n,.bool true))=(l++[s]).map fun n=>(.str n,.bool true)
 | [],_=>rfl
 | n::r,h=>by
  rw [List.contains_cons,Bool.or_eq_false_iff] at h
  show (match (s==n) with | true=>_ | false=>_)=_
  rw [h.1]
  show (Data.str n,Data.bool true)::putM (.str s) (.bool true) (r.map fun n=>(.str n,.bool true))=_
  rw [putM_names s r h.2]; rfl
theorem keys_names:∀ l:List (List UInt8),keysOk none (l.map fun n=>(.str n,.bool true))=true
 | []=>rfl
 | n::r=>keys_names r
theorem st_new {l:List Stn} {k:Nat} {x:Stn} (h:(chkSt (nmsTo l k) x != 0)=false):(nmsTo l k).contains x.nm=false:=by
 have h:chkSt (nmsTo l k) x=0:=by simpa using h
 have h2:=firstOf_zero h (bif (nmsTo l k).contains x.nm then 9 else 0) (by simp)
 rcases Bool.eq_false_or_eq_true ((nmsTo l k).contains x.nm) with e | e
 ·rw [e] at h2; cases h2
 ·exact e
set_option maxHeartbeats 4000000 in
theorem c70 (l:List Stn):CallDet Try.prog 34 [.d (.slice 4 (stns l))] [.int .i64 (chkStns l)]:=by
 have hlen:=stns_len l
 refine call_of_vc (x:=ir70) (by kernel_rfl) rfl ?_
 refine And.intro rfl ?_
 refine brk_intro ?_ ?_
 ·intro h
  exact st_big (by rw [← hlen]; exact h)
 intro h
 have h:decide ((8:Int) < ((stns l).length:Int))=false:=h
 have h8:l.length≤8:=by have:=of_decide_eq_false h; omega
 rw [hlen] at h
 refine loop_st (fun k:Nat=>⟨[(3,.mp 0),(11,.d (.slice 4 (stns l))),(12,.d (.int .i64 ((stns l).length:Int))),(13,.d (.int .i64 k))],[.mapo (kmap l k),.none,.none]⟩)
  (fun k=>chkStns l=chkGo (nmsTo l k) (l.drop k)) (fun k=>l.length - k) 0 rfl (st_small h) ?_
 intro k hi
 refine And.intro rfl ?_
 refine brk_lt (fun h=>?_) (fun h=>?_)
 ·have h:(k:Int) < ((stns l).length:Int):=h
  refine Exists.elim (⟨_,List.getElem?_eq_getElem (by omega)⟩:∃ x,l[k]?=some x) fun x hx=>?_
  have hd:(stns l)[(k:Int).toNat]?=some x.d:=by simp [stns,hx]
  have hf:findM (.str x.nm) (kmap l k)=if (nmsTo l k).contains x.nm then some (Data.bool true) else none:=findM_names _ _
  have hlk:(∃ y,findM (.str x.nm) (kmap l k)=some y∧[Data.bool ((nmsTo l k).contains x.nm),Data.bool ((nmsTo l k).contains x.nm)]=[y,.bool true])∨(findM (.str x.nm) (kmap l k)=none∧[Data.bool ((nmsTo l k).contains x.nm),Data.bool ((nmsTo l k).contains x.nm)]=[.bool false,.bool false]):=by
   rw [hf]
   rcases Bool.eq_false_or_eq_true ((nmsTo l k).contains x.nm) with e | e
   ·rw [e]; exact .inl ⟨_,rfl,rfl⟩
   ·rw [e]; exact .inr ⟨rfl,rfl⟩
  refine ix_at hd (by omega) ?_
  refine Exists.intro _ (And.intro (c114 x.nm) ?_)
  refine Exists.intro _ (And.intro (c83 _ _) ?_)
  refine Exists.intro [Data.bool ((nmsTo l k).contains x.nm),Data.bool ((nmsTo l k).contains x.nm)] (And.intro ⟨rfl,keys_names _,hlk⟩ ?_)
  refine Exists.intro _ (And.intro (c83 _ _) ?_)
  refine Exists.intro _ (And.intro (c82 _ _ _) ?_)
  refine Exists.intro _ (And.intro (c82 _ _ _) ?_)
  refine Exists.intro _ (And.intro (c82 _ _ _) ?_)
  repeat refine And.intro rfl ?_
  refine Exists.intro _ (And.intro (c81 [bif !(isNm x.nm) then 8 else 0,bif (nmsTo l k).contains x.nm then 9 else 0,within3 x.pri 0 3,within3 x.fr 0 64,within3 x.wt 0 1000] (by simp)) ?_)
  repeat refine And.intro rfl ?_
  refine brk_intro ?_ ?_
  ·intro hb
   exact st_bad hx hi hb
  ·intro hb
   refine And.intro ⟨rfl,keys_names _⟩ ?_
   refine ar_add (by omega) ?_
   have hp:putM (.str x.nm) (.bool true) (kmap l k)=kmap l (k+1):=by
    unfold kmap
    rw [putM_names _ _ (st_new hb),nmsTo_succ hx]
   refine ⟨k+1,⟨st_ok hx hi hb,by show l.length - (k+1) < l.length - k; omega⟩,?_⟩
   exact congrArg (fun m=>St.mk [(3,.mp 0),(11,.d (.slice 4 (stns l))),(12,.d (.int .i64 ((stns l).length:Int))),(13,.d (.int .i64 ((k:Int)+1)))] [.mapo m,.none,.none]) hp
 ·have h:¬ (k:Int) < ((stns l).length:Int):=h
  exact st_end (by omega) hi
end Vc
set_option maxRecDepth 10000
namespace Vc
open Go Go.Proofs
def Stn.sum (x:Stn):Int:=x.pri+x.wt
def Stn.ok (x:Stn):Prop:=(0≤x.pri∧x.pri≤3)∧(0≤x.fr∧x.fr≤64)∧(0≤x.wt∧x.wt≤1000)
def better (out:Int) (b x:Stn):Bool:=decide (0 < x.fr)&&(decide (out < 0)||decide (b.sum < x.sum))
def wGo:Int→Stn→Nat→List Stn→Int
 | out,_,_,[]=>out
 | out,b,k,x::r=>bif better out b x then wGo k x (k+1) r else wGo out b (k+1) r
def winF (l:List Stn):Int:=wGo (-1) ⟨[],0,0,0⟩ 0 l
def aheadB (b x:Stn):Bool:=(x.fr==0)||(decide (0 < b.fr)&&decide (x.sum≤b.sum))
def wI (l:List Stn) (a:Nat × Int × Stn):Prop:=winF l=wGo a.2.1 a.2.2 a.1 (l.drop a.1)∧(a.2.1=-1∨(0≤a.2.1∧a.2.1 < a.1∧l[a.2.1.toNat]?=some a.2.2∧0 < a.2.2.fr))
theorem wGo_at {l:List Stn} {k:Nat} {x:Stn} (h:l[k]?=some x) (out:Int) (b:Stn):wGo out b k (l.drop k)=bif better out b x then wGo k x (k+1) (l.drop (k+1)) else wGo out b (k+1) (l.drop (k+1)):=by
 obtain ⟨hl,e⟩:=List.getElem?_eq_some_iff.1 h
 rw [List.drop_eq_getElem_cons hl,e]; rfl
theorem wI_yes {l:List Stn} {k:Nat} {out:Int} {b x:Stn} (h:l[k]?=some x) (hi:wI l (k,out,b)) (hb:better out b x=true):wI l (k+1,(k:Int),x):=by
 obtain ⟨h1,_⟩:=hi
 have h1:winF l=wGo out b k (l.drop k):=h1
 refine ⟨by rw [h1,wGo_at h,hb]; rfl,.inr ⟨by show 0≤(k:Int); omega,by show (k:Int) < ((k+1:Nat):Int); omega,h,?_⟩⟩
 unfold better at hb
 rw [Bool.and_eq_true] at hb
 exact of_decide_eq_true hb.1
theorem wI_no {l:List Stn} {k:Nat} {out:Int} {b x:Stn} (h:l[k]?=some x) (hi:wI l (k,out,b)) (hb:better out b x=false):wI l (k+1,out,b):=by
 obtain ⟨h1,h2⟩:=hi
 have h1:winF l=wGo out b k (l.drop k):=h1
 refine ⟨by rw [h1,wGo_at h,hb]; rfl,?_⟩
 rcases h2 with h2 | ⟨h2,h3,h4,h5⟩
 ·exact .inl h2
 ·have h3:out < (k:Int):=h3
  exact .inr ⟨h2,by show out < ((k+1:Nat):Int); omega,h4,h5⟩
theorem wI_end {l:List Stn} {k:Nat} {out:Int} {b:Stn} (hk:l.length≤k) (hi:wI l (k,out,b)):resV [.int .i64 out]=resV [.int .i64 (winF l)]:=by
 obtain ⟨h1,_⟩:=hi
 have h1:winF l=wGo out b k (l.drop k):=h1
 rw [h1,List.drop_eq_nil_of_le hk]; rfl
theorem wI_start (l:List Stn):wI l (0,-1,⟨[],0,0,0⟩):=⟨rfl,.inl rfl⟩
def ir141:AFun:=⟨26,2,[.tmp 4],
 (.seq
 (.reg [0,1] [⟨some 2,.cbx 0 4 (.tmp 0),none⟩,
 ⟨some 3,.cbx 1 4 (.tmp 1),none⟩,
 ⟨some 4,.mov (.cst (.d (.bool false))),none⟩])
 (.seq
 (.reg [] [⟨some 5,.fad 2 (.tmp 3),none⟩,
 ⟨some 6,.ld false 1 (.tmp 5),none⟩,
 ⟨some 7,.cmp .eql (.tmp 6) (.cst (.d (.int .i64 0))),none⟩,
 ⟨some 8,.mov (.tmp 7),none⟩,
 ⟨some 9,.fad 2 (.tmp 2),some (8,false)⟩,
 ⟨some 10,.ld false 1 (.tmp 9),some (8,false)⟩,
 ⟨some 11,.cmp .gtr (.tmp 10) (.cst (.d (.int .i64 0))),some (8,false)⟩,
 ⟨some 12,.mov (.tmp 11),some (8,false)⟩,
 ⟨some 13,.fad 1 (.tmp 2),some (12,true)⟩,
 ⟨some 14,.ld false 1 (.tmp 13),some (12,true)⟩,
 ⟨some 15,.fad 3 (.tmp 2),some (12,true)⟩,
 ⟨some 16,.ld false 1 (.tmp 15),some (12,true)⟩,
 ⟨some 17,.arith .add .i64 (.tmp 14) (.tmp 16),some (12,true)⟩,
 ⟨some 18,.fad 1 (.tmp 3),some (12,true)⟩,
 ⟨some 19,.ld false 1 (.tmp 18),some (12,true)⟩,
 ⟨some 20,.fad 3 (.tmp 3),some (12,true)⟩,
 ⟨some 21,.ld false 1 (.tmp 20),some (12,true)⟩,
 ⟨some 22,.arith .add .i64 (.tmp 19) (.tmp 21),some (12,true)⟩,
 ⟨some 23,.cmp .geq (.tmp 17) (.tmp 22),some (12,true)⟩,
 ⟨some 24,.pick (.tmp 12) (.tmp 23) (.cst (.d (.bool false))),some (8,false)⟩,
 ⟨some 25,.pick (.tmp 8) (.cst (.d (.bool true))) (.tmp 24),none⟩,
 ⟨some 4,.mov (.tmp 25),none⟩])
 .ret))⟩
def ir107:AFun:=⟨34,1,[.tmp 2],
 (.seq
 (.reg [] [⟨some 2,.mov (.cst (.d (.int .i64 0))),none⟩])
 (.seq
 (.reg [] [⟨some 3,.mov (.cst (.d (.fn (.func 57) []))),none⟩])
 (.seq
 (.reg [] [⟨some 4,.mov (.cst (.d (.int .i64 (-1)))),none⟩])
 (.seq
 (.seq
 (.reg [] [⟨some 7,.mov (.tmp 0),none⟩,
 ⟨some 8,.len (.tmp 7),none⟩,
 ⟨some 9,.mov (.cst (.d (.int .i64 0))),none⟩])
 (.post [4] [0]
 (.block 0
 (.keep [0,3,4,7,8,9] []
 (.loop
 (.post [0,3,4,7,8,9] [0]
 (.seq
 (.reg [] [⟨some 10,.cmp .lss (.tmp 9) (.tmp 8),none⟩])
 (.seq
 (.cond (.tmp 10)
 .skip
 (.exit 0))
 (.seq
 (.block 1
 (.seq
 (.reg [0] [⟨some 11,.mov (.tmp 9),none⟩,
 ⟨some 12,.ixa 4 (.tmp 7) (.tmp 9),none⟩,
 ⟨some 13,.ld true 4 (.tmp 12),none⟩,
 ⟨some 6,.alloc 0 [(.d (.str [])),(.d (.int .i64 0)),(.d (.int .i64 0)),(.d (.int .i64 0))],none⟩,
 ⟨some 5,.mov (.tmp 11),none⟩,
 ⟨none,.st 4 (.tmp 6) (.tmp 13),none⟩])
 (.seq
 (.regd [] [⟨some 14,.fad 2 (.tmp 6),none⟩,
 ⟨some 15,.ld false 1 (.tmp 14),none⟩,
 ⟨some 16,.cmp .gtr (.tmp 15) (.cst (.d (.int .i64 0))),none⟩,
 ⟨some 17,.mov (.tmp 16),none⟩,
 ⟨some 18,.mov (.tmp 4),some (17,true)⟩,
 ⟨some 19,.cmp .lss (.tmp 18) (.cst (.d (.int .i64 0))),some (17,true)⟩,
 ⟨some 20,.mov (.tmp 19),some (17,true)⟩,
 ⟨some 21,.mov (.tmp 3),some (20,false)⟩,
 ⟨some 22,.mov (.tmp 0),some (20,false)⟩,
 ⟨some 23,.mov (.tmp 4),some (20,false)⟩,
 ⟨some 24,.ixa 4 (.tmp 22) (.tmp 23),some (20,false)⟩,
 ⟨some 25,.ld true 4 (.tmp 24),some (20,false)⟩,
 ⟨some 26,.ld true 4 (.tmp 6),some (20,false)⟩,
 ⟨some 27,.callv (.tmp 21) [(.tmp 25),(.tmp 26)],some (20,false)⟩,
 ⟨some 28,.not (.tmp 27),some (20,false)⟩,
 ⟨some 29,.pick (.tmp 20) (.cst (.d (.bool true))) (.tmp 28),some (17,true)⟩,
 ⟨some 30,.pick (.tmp 17) (.tmp 29) (.cst (.d (.bool false))),none⟩] [(7,8),(7,9),(8,9),(7,10),(7,11),(7,12),(8,12),(9,12),(10,12),(11,12)])
 (.cond (.tmp 30)
 (.reg [] [⟨some 31,.mov (.tmp 5),none⟩,
 ⟨some 4,.mov (.tmp 31),none⟩])
 .skip))))
 (.reg [] [⟨some 32,.arith .add .i64 (.tmp 9) (.cst (.d (.int .i64 1))),none⟩,
 ⟨some 9,.mov (.tmp 32),none⟩]))))))))))
 (.seq
 (.reg [] [⟨some 33,.mov (.tmp 4),none⟩,
 ⟨some 2,.mov (.tmp 33),none⟩])
 .ret)))))⟩
theorem c141 (b x:Stn) (hb:b.ok) (hx:x.ok):CallDet Try.prog 57 [.d b.d,.d x.d] [.bool (aheadB b x)]:=by
 obtain ⟨⟨b1,b2⟩,_,b3,b4⟩:=hb
 obtain ⟨⟨x1,x2⟩,_,x3,x4⟩:=hx
 have fin:∀ v:Bool,aheadB b x=v→resV [.bool v]=resV [.bool (aheadB b x)]:=fun v h=>by rw [h]
 refine call_of_vc (x:=ir141) (by kernel_rfl) rfl ?_
 refine And.intro rfl ?_
 refine brk_intro ?_ ?_
 ·intro h
  have h:(x.fr==0)=true:=h
  repeat refine And.intro rfl ?_
  exact fin true (by unfold aheadB; rw [h]; rfl)
 intro h
 have h:(x.fr==0)=false:=h
 refine And.intro rfl ?_
 refine brk_intro ?_ ?_
 ·intro h2
  have h2:decide (0 < b.fr)=true:=h2
  refine ar_add (by omega) ?_
  refine ar_add (by omega) ?_
  repeat refine And.intro rfl ?_
  exact fin _ (by unfold aheadB; rw [h,h2]; rfl)
 ·intro h2
  have h2:decide (0 < b.fr)=false:=h2
  repeat refine And.intro rfl ?_
  exact fin false (by unfold aheadB; rw [h,h2]; rfl)
set_option maxHeartbeats 4000000 in
theorem c107 (l:List Stn) (hl:l.length≤1048576) (ho:∀ x∈l,x.ok):CallDet Try.prog 40 [.d (.slice 4 (stns l))] [.int .i64 (winF l)]:=by
 have hlen:=stns_len l
 refine call_of_vc (x:=ir107) (by kernel_rfl) rfl ?_
 refine loop_st (fun a:Nat × Int × Stn=>⟨[(0,.d (.slice 4 (stns l))),(3,.d (.fn (.func 57) [])),(4,.d (.int .i64 a.2.1)),(7,.d (.slice 4 (stns l))),(8,.d (.int .i64 ((stns l).length:Int))),(9,.d (.int .i64 a.1))],[.none]⟩)
  (wI l) (fun a=>l.length - a.1) (0,-1,⟨[],0,0,0⟩) rfl (wI_start l) ?_
 rintro ⟨k,out,b⟩ hi
 refine And.intro rfl ?_
 refine brk_lt (fun h=>?_) (fun h=>?_)
 ·have h:(k:Int) < ((stns l).length:Int):=h
  refine Exists.elim (⟨_,List.getElem?_eq_getElem (by omega)⟩:∃ x,l[k]?=some x) fun x hx=>?_
  have hd:(stns l)[(k:Int).toNat]?=some x.d:=by simp [stns,hx]
  have hxo:=ho x (List.mem_of_getElem? hx)
  have hb1:-9223372036854775808≤(k:Int)+1∧(k:Int)+1≤9223372036854775807:=by omega
  have yes:better out b x=true→∃ a':Nat × Int × Stn,(wI l a'∧l.length - a'.1 < l.length - k)∧(⟨[(0,.d (.slice 4 (stns l))),(3,.d (.fn (.func 57) [])),(4,.d (.int .i64 (k:Int))),(7,.d (.slice 4 (stns l))),(8,.d (.int .i64 ((stns l).length:Int))),(9,.d (.int .i64 ((k:Int)+1)))],[.none]⟩:St)=⟨[(0,.d (.slice 4 (stns l))),(3,.d (.fn (.func 57) [])),(4,.d (.int .i64 a'.2.1)),(7,.d (.slice 4 (stns l))),(8,.d (.int .i64 ((stns l).length:Int))),(9,.d (.int .i64 a'.1))],[.none]⟩:=fun e =>
   ⟨(k+1,(k:Int),x),⟨wI_yes hx hi e,by show l.length - (k+1) < l.length - k; omega⟩,rfl⟩
  have no:better out b x=false→∃ a':Nat × Int × Stn,(wI l a'∧l.length - a'.1 < l.length - k)∧(⟨[(0,.d (.slice 4 (stns l))),(3,.d (.fn (.func 57) [])),(4,.d (.int .i64 out)),(7,.d (.slice 4 (stns l))),(8,.d (.int .i64 ((stns l).length:Int))),(9,.d (.int .i64 ((k:Int)+1)))],[.none]⟩:St)=⟨[(0,.d (.slice 4 (stns l))),(3,.d (.fn (.func 57) [])),(4,.d (.int .i64 a'.2.1)),(7,.d (.slice 4 (stns l))),(8,.d (.int .i64 ((stns l).length:Int))),(9,.d (.int .i64 a'.1))],[.none]⟩:=fun e =>
   ⟨(k+1,out,b),⟨wI_no hx hi e,by show l.length - (k+1) < l.length - k; omega⟩,rfl⟩
  refine ix_at hd (by omega) ?_
  refine And.intro rfl ?_
  refine brk_lt (fun h1=>?_) (fun h1=>?_)
  ·have h1:0 < x.fr:=h1
   refine And.intro rfl ?_
   refine brk_lt (fun h2=>?_) (fun h2=>?_)
   ·have h2:out < 0:=h2
    repeat refine And.intro rfl ?_
    refine ar_add hb1 ?_
    exact yes (by unfold better; rw [decide_eq_true h1,decide_eq_true h2]; rfl)
   ·have h2:¬ out < 0:=h2
    refine Exists.elim (show ∃ u:Unit,0≤out∧l[out.toNat]?=some b∧0 < b.fr from ⟨(),by obtain ⟨_,h3 | ⟨h3,_,h4,h5⟩⟩:=hi; exact absurd h3 (by show ¬ out=-1; omega); exact ⟨h3,h4,h5⟩⟩) fun _ h3=>?_
    have hdo:(stns l)[out.toNat]?=some b.d:=by simp [stns,h3.2.1]
    refine ix_at hdo h3.1 ?_
    refine Exists.intro _ (And.intro (c141 b x (ho b (List.mem_of_getElem? h3.2.1)) hxo) ?_)
    have hbt:better out b x=!(aheadB b x):=by
     unfold better aheadB
     rw [decide_eq_true h1,decide_eq_false h2,decide_eq_true h3.2.2,show (x.fr==0)=false by rw [beq_eq_false_iff_ne]; omega]
     show decide (b.sum < x.sum)=!decide (x.sum≤b.sum)
     rcases Int.lt_or_le b.sum x.sum with e | e
     ·rw [decide_eq_true e,decide_eq_false (by omega)]; rfl
     ·rw [decide_eq_false (by omega),decide_eq_true (by omega)]; rfl
    repeat refine And.intro rfl ?_
    refine brk_intro ?_ ?_
    ·intro e
     refine ar_add hb1 ?_
     exact yes (hbt.trans e)
    ·intro e
     refine ar_add hb1 ?_
     exact no (hbt.trans e)
  ·have h1:¬ 0 < x.fr:=h1
   repeat refine And.intro rfl ?_
   refine ar_add hb1 ?_
   exact no (by unfold better; rw [decide_eq_false h1]; rfl)
 ·have h:¬ (k:Int) < ((stns l).length:Int):=h
  exact wI_end (by omega) hi
end Vc
set_option maxRecDepth 10000
namespace Vc
open Go Go.Proofs
def stnAft (k w:Int) (x:Stn):Stn:=bif k==w then ⟨x.nm,x.pri,x.fr - 1,0⟩ else bif decide (0 < x.fr) then ⟨x.nm,x.pri,x.fr,min 1000 (x.wt+1)⟩ else ⟨x.nm,x.pri,x.fr,0⟩
def aftGo (w:Int):Nat→List Stn→List Stn
 | _,[]=>[]
 | k,x::r=>stnAft k w x::aftGo w (k+1) r
def aftF (l:List Stn) (w:Int):List Stn:=aftGo w 0 l
theorem aftGo_len (w:Int):∀ (l:List Stn) (k:Nat),(aftGo w k l).length=l.length
 | [],_=>rfl
 | x::r,k=>by simp [aftGo,aftGo_len w r (k+1)]
theorem aftGo_at (w:Int):∀ (l:List Stn) (j k:Nat) {x:Stn},l[k]?=some x→(aftGo w j l)[k]?=some (stnAft ((j+k:Nat):Int) w x)
 | [],_,_,_,h=>by simp at h
 | y::r,j,0,x,h=>by
  simp only [List.getElem?_cons_zero,Option.some.injEq] at h
  subst h
  rfl
 | y::r,j,k+1,x,h=>by
  simp only [List.getElem?_cons_succ] at h
  show (aftGo w (j+1) r)[k]?=_
  rw [aftGo_at w r (j+1) k h,show j+1+k=j+(k+1) by omega]
def mixF (l:List Stn) (w:Int) (k:Nat):List Stn:=(aftF l w).take k++l.drop k
theorem aft_at {l:List Stn} {w:Int} {k:Nat} {x:Stn} (h:l[k]?=some x):(aftF l w)[k]?=some (stnAft k w x):=by
 rw [aftF,aftGo_at w l 0 k h,Nat.zero_add]
theorem aft_len (l:List Stn) (w:Int):(aftF l w).length=l.length:=aftGo_len w l 0
theorem mix_len {l:List Stn} {w:Int} {k:Nat} (h:k≤l.length):(mixF l w k).length=l.length:=by
 rw [mixF,List.length_append,List.length_take,List.length_drop,aft_len]; omega
theorem mix_at {l:List Stn} {w:Int} {k:Nat} {x:Stn} (h:l[k]?=some x):(mixF l w k)[k]?=some x:=by
 obtain ⟨hl,_⟩:=List.getElem?_eq_some_iff.1 h
 rw [mixF,List.getElem?_append_right (by rw [List.length_take]; omega),List.length_take,aft_len,show k - min k l.length=0 by omega,List.getElem?_drop]; exact h
theorem mix_step {l:List Stn} {w:Int} {k:Nat} {x:Stn} (h:l[k]?=some x):(mixF l w k).set k (stnAft k w x)=mixF l w (k+1):=by
 obtain ⟨hl,_⟩:=List.getElem?_eq_some_iff.1 h
 apply List.ext_getElem?
 intro j
 have hlm:(mixF l w k).length=l.length:=mix_len (by omega)
 by_cases e:k=j
 ·subst e
  rw [List.getElem?_set_self (by omega),mixF,List.getElem?_append_left (by rw [List.length_take,aft_len]; omega),List.getElem?_take,if_pos (by omega),aft_at h]
 ·rw [List.getElem?_set_ne e]
  rcases Nat.lt_or_ge j k with h1 | h1
  ·rw [mixF,mixF,List.getElem?_append_left (by rw [List.length_take,aft_len]; omega),List.getElem?_append_left (by rw [List.length_take,aft_len]; omega),List.getElem?_take,List.getElem?_take,if_pos (by omega),if_pos (by omega)]
  ·rw [mixF,mixF,List.getElem?_append_right (by rw [List.length_take]; omega),List.getElem?_append_right (by rw [List.length_take]; omega),List.length_take,List.length_take,aft_len,List.getElem?_drop,List.getElem?_drop]
   congr 1; omega
theorem mixd_step {l:List Stn} {w:Int} {k:Nat} {x:Stn} (h:l[k]?=some x):(stns (mixF l w k)).set k (stnAft k w x).d=stns (mixF l w (k+1)):=by
 rw [← mix_step h]; simp [stns,List.map_set]
theorem mix_end {l:List Stn} {w:Int} {k:Nat} (hk:l.length≤k):mixF l w k=aftF l w:=by
 rw [mixF,List.drop_eq_nil_of_le hk,List.append_nil,List.take_of_length_le (by rw [aft_len]; exact hk)]
theorem aft1 {k:Nat} {w:Int} {x:Stn} (h:((k:Int)==w)=true):stnAft k w x=⟨x.nm,x.pri,x.fr - 1,0⟩:=by unfold stnAft; rw [h]; rfl
theorem aft2 {k:Nat} {w:Int} {x:Stn} (h:((k:Int)==w)=false) (h2:¬ 0 < x.fr):stnAft k w x=⟨x.nm,x.pri,x.fr,0⟩:=by unfold stnAft; rw [h,decide_eq_false h2]; rfl
theorem aft3 {k:Nat} {w:Int} {x:Stn} (h:((k:Int)==w)=false) (h2:0 < x.fr):stnAft k w x=⟨x.nm,x.pri,x.fr,min 1000 (x.wt+1)⟩:=by unfold stnAft; rw [h,decide_eq_true h2]; rfl
def ir108:AFun:=⟨8,2,[.tmp 2],
 (.seq
 (.reg [] [⟨some 2,.mov (.cst (.nils 4)),none⟩])
 (.seq
 (.seq
 (.reg [] [⟨some 3,.mov (.tmp 0),none⟩,
 ⟨some 4,.isnil false (.tmp 3),none⟩])
 (.cond (.tmp 4)
 (.seq
 (.reg [] [⟨some 2,.mov (.cst (.nils 4)),none⟩])
 .ret)
 .skip))
 (.seq
 (.reg [0,1] [⟨some 5,.bsl 0 45 4 0 [] [],none⟩,
 ⟨some 6,.mov (.tmp 0),none⟩,
 ⟨some 7,.app 1 45 4 40 (.tmp 5) (.tmp 6),none⟩,
 ⟨some 2,.mov (.tmp 7),none⟩])
 .ret)))⟩
def ir109:AFun:=⟨48,2,[.tmp 4],
 (.seq
 (.reg [] [⟨some 4,.mov (.cst (.nils 4)),none⟩])
 (.seq
 (.reg [] [⟨some 8,.mov (.tmp 0),none⟩,
 ⟨some 9,.calln 1 45 4 39 [(.tmp 8)],none⟩,
 ⟨some 5,.mov (.tmp 9),none⟩])
 (.seq
 (.seq
 (.reg [] [⟨some 10,.mov (.tmp 0),none⟩,
 ⟨some 11,.len (.tmp 10),none⟩,
 ⟨some 12,.mov (.cst (.d (.int .i64 0))),none⟩])
 (.post [5] [0]
 (.block 0
 (.keep [1,5,10,11,12] []
 (.loop
 (.post [1,5,10,11,12] [0]
 (.seq
 (.reg [] [⟨some 13,.cmp .lss (.tmp 12) (.tmp 11),none⟩])
 (.seq
 (.cond (.tmp 13)
 .skip
 (.exit 0))
 (.seq
 (.block 1
 (.seq
 (.reg [0] [⟨some 14,.mov (.tmp 12),none⟩,
 ⟨some 15,.ixa 4 (.tmp 10) (.tmp 12),none⟩,
 ⟨some 16,.ld true 4 (.tmp 15),none⟩,
 ⟨some 7,.alloc 0 [(.d (.str [])),(.d (.int .i64 0)),(.d (.int .i64 0)),(.d (.int .i64 0))],none⟩,
 ⟨some 6,.mov (.tmp 14),none⟩,
 ⟨none,.st 4 (.tmp 7) (.tmp 16),none⟩])
 (.seq
 (.block 2
 (.seq
 (.reg [] [⟨some 23,.mov (.tmp 6),none⟩,
 ⟨some 24,.mov (.tmp 1),none⟩,
 ⟨some 25,.cmp .eql (.tmp 23) (.tmp 24),none⟩,
 ⟨some 22,.mov (.tmp 25),none⟩])
 (.cond (.tmp 22)
 (.reg [] [⟨some 26,.fad 2 (.tmp 7),none⟩,
 ⟨some 27,.ld false 1 (.tmp 26),none⟩,
 ⟨some 28,.arith .sub .i64 (.tmp 27) (.cst (.d (.int .i64 1))),none⟩,
 ⟨some 29,.fad 2 (.tmp 7),none⟩,
 ⟨none,.st 1 (.tmp 29) (.tmp 28),none⟩,
 ⟨some 30,.fad 3 (.tmp 7),none⟩,
 ⟨none,.st 1 (.tmp 30) (.cst (.d (.int .i64 0))),none⟩])
 (.seq
 (.reg [] [⟨some 32,.ld true 4 (.tmp 7),none⟩,
 ⟨some 33,.fad 0 (.tmp 7),none⟩,
 ⟨some 34,.ld false 1 (.tmp 33),none⟩,
 ⟨some 35,.fad 1 (.tmp 7),none⟩,
 ⟨some 36,.ld false 1 (.tmp 35),none⟩,
 ⟨some 37,.fad 3 (.tmp 7),none⟩,
 ⟨some 38,.ld false 1 (.tmp 37),none⟩,
 ⟨some 39,.build [(.d (.str [])),(.d (.int .i64 0)),(.d (.int .i64 0)),(.d (.int .i64 0))] [(0,1,(.tmp 34)),(1,1,(.tmp 36)),(2,1,(.cst (.d (.int .i64 0)))),(3,1,(.tmp 38))],none⟩,
 ⟨some 40,.aeq false [2,0,0,0] (.tmp 32) (.tmp 39),none⟩,
 ⟨some 31,.mov (.tmp 40),none⟩])
 (.cond (.tmp 31)
 (.reg [] [⟨some 41,.fad 3 (.tmp 7),none⟩,
 ⟨none,.st 1 (.tmp 41) (.cst (.d (.int .i64 0))),none⟩])
 (.reg [] [⟨some 17,.fad 3 (.tmp 7),none⟩,
 ⟨some 18,.ld false 1 (.tmp 17),none⟩,
 ⟨some 19,.arith .add .i64 (.tmp 18) (.cst (.d (.int .i64 1))),none⟩,
 ⟨some 20,.mini (.cst (.d (.int .i64 1000))) (.tmp 19),none⟩,
 ⟨some 21,.fad 3 (.tmp 7),none⟩,
 ⟨none,.st 1 (.tmp 21) (.tmp 20),none⟩]))))))
 (.reg [] [⟨some 42,.mov (.tmp 5),none⟩,
 ⟨some 43,.mov (.tmp 6),none⟩,
 ⟨some 44,.ld true 4 (.tmp 7),none⟩,
 ⟨some 45,.ixa 4 (.tmp 42) (.tmp 43),none⟩,
 ⟨none,.st 4 (.tmp 45) (.tmp 44),none⟩]))))
 (.reg [] [⟨some 46,.arith .add .i64 (.tmp 12) (.cst (.d (.int .i64 1))),none⟩,
 ⟨some 12,.mov (.tmp 46),none⟩]))))))))))
 (.seq
 (.reg [] [⟨some 47,.mov (.tmp 5),none⟩,
 ⟨some 4,.mov (.tmp 47),none⟩])
 .ret))))⟩
theorem c108 (l:List Data) (hl:l.length≤1048576):CallDet Try.prog 39 [.d (.slice 4 l)] [.slice 4 l]:=by
 refine call_of_vc (x:=ir108) (by kernel_rfl) rfl ?_
 refine And.intro ?_ ?_
 ·intro h
  subst h
  exact rfl
 ·refine And.intro rfl ?_
  refine And.intro rfl ?_
  refine And.intro ⟨rfl,rfl,rfl,?_,?_⟩ ?_
  ·show (0+l.length) * 40≤2 ^ 47
   omega
  ·show 0+l.length≤2 ^ 47
   omega
  refine And.intro ?_ ?_
  ·rfl
  ·exact rfl
theorem c108r (l:List Data) (hl:l.length≤1048576):CallRow Try.prog 39 [.d (.slice 4 l)] 45 4 l:=by
 refine callRow_of_vc (x:=ir108) (by kernel_rfl) rfl ?_
 refine And.intro ?_ ?_
 ·intro h
  subst h
  exact .inr ⟨by decide,rfl,4,⟨rfl,rfl⟩⟩
 ·refine And.intro rfl ?_
  refine And.intro rfl ?_
  refine And.intro ⟨rfl,rfl,rfl,?_,?_⟩ ?_
  ·show (0+l.length) * 40≤2 ^ 47
   omega
  ·show 0+l.length≤2 ^ 47
   omega
  exact .inl ⟨0,⟨rfl,rfl⟩,rfl⟩
theorem ag {l:List Stn} {w:Int} {p:List Stn} (h:p=aftF l w):resV [.slice 4 (stns p)]=resV [.slice 4 (stns (aftF l w))]:=by rw [h]
set_option maxHeartbeats 4000000 in
theorem c109 (l:List Stn) (w:Int) (hl:l.length≤1048576) (ho:∀ x∈l,x.ok):CallDet Try.prog 41 [.d (.slice 4 (stns l)),.d (.int .i64 w)] [.slice 4 (stns (aftF l w))]:=by
 have hlen:=stns_len l
 refine call_of_vc (x:=ir109) (by kernel_rfl) rfl ?_
 refine Exists.intro _ (And.intro (c108r (stns l) (by omega)) ?_)
 refine loop_st (fun k:Nat=>⟨[(1,.d (.int .i64 w)),(5,.sl 1 (stns l).length),(10,.d (.slice 4 (stns l))),(11,.d (.int .i64 ((stns l).length:Int))),(12,.d (.int .i64 k))],[.none,.row 45 4 (stns (mixF l w k)) false]⟩)
  (fun k=>k≤l.length) (fun k=>l.length - k) 0 rfl (Nat.zero_le _) ?_
 intro k hk
 have hml:(stns (mixF l w k)).length=(stns l).length:=by rw [stns_len,stns_len,mix_len hk]
 refine And.intro rfl ?_
 refine brk_lt (fun h=>?_) (fun h=>?_)
 ·have h:(k:Int) < ((stns l).length:Int):=h
  refine Exists.elim (⟨_,List.getElem?_eq_getElem (by omega)⟩:∃ x,l[k]?=some x) fun x hx=>?_
  have hd:(stns l)[(k:Int).toNat]?=some x.d:=by simp [stns,hx]
  have hdm:(stns (mixF l w k))[(k:Int).toNat]?=some x.d:=by
   show ((mixF l w k).map Stn.d)[k]?=_
   rw [List.getElem?_map,mix_at hx]; rfl
  obtain ⟨_,⟨hf1,hf2⟩,hw1,hw2⟩:=ho x (List.mem_of_getElem? hx)
  have hb1:-9223372036854775808≤(k:Int)+1∧(k:Int)+1≤9223372036854775807:=by omega
  have fin:∀ y:Stn,stnAft k w x=y→∃ a':Nat,(a'≤l.length∧l.length - a' < l.length - k)∧(⟨[(1,.d (.int .i64 w)),(5,.sl 1 (stns l).length),(10,.d (.slice 4 (stns l))),(11,.d (.int .i64 ((stns l).length:Int))),(12,.d (.int .i64 ((k:Int)+1)))],[.none,.row 45 4 ((stns (mixF l w k)).set (k:Int).toNat y.d) false]⟩:St)=⟨[(1,.d (.int .i64 w)),(5,.sl 1 (stns l).length),(10,.d (.slice 4 (stns l))),(11,.d (.int .i64 ((stns l).length:Int))),(12,.d (.int .i64 a'))],[.none,.row 45 4 (stns (mixF l w a')) false]⟩:=fun y e=>by
   refine ⟨k+1,⟨by omega,by omega⟩,?_⟩
   rw [← e,← mixd_step hx]; rfl
  refine ix_at hd (by omega) ?_
  repeat refine And.intro rfl ?_
  refine brk_intro ?_ ?_
  ·intro e
   have e:((k:Int)==w)=true:=e
   refine ar_sub (by omega) ?_
   repeat refine And.intro rfl ?_
   refine And.intro ⟨rfl,hml,by omega,h⟩ ?_
   refine Exists.intro _ (Exists.intro (⟨x.nm,x.pri,x.fr - 1,0⟩:Stn).d (And.intro ⟨hml,hdm,rfl,Nat.le_refl 4,rfl,rfl⟩ ?_))
   refine ar_add hb1 ?_
   exact fin _ (aft1 e)
  ·intro e
   have e:((k:Int)==w)=false:=e
   have heq:eqCells [2,0,0,0] [.d (.str x.nm),.d (.int .i64 x.pri),.d (.int .i64 x.fr),.d (.int .i64 x.wt)] [.d (.str x.nm),.d (.int .i64 x.pri),.d (.int .i64 0),.d (.int .i64 x.wt)]=some (x.fr==0):=by simp [eqCells]
   refine Exists.intro (.bool (x.fr==0)) (And.intro ⟨x.fr==0,heq,rfl⟩ ?_)
   refine brk_eq (fun e2=>?_) (fun e2=>?_)
   ·have e2:x.fr=0:=e2
    refine And.intro ⟨rfl,hml,by omega,h⟩ ?_
    refine Exists.intro _ (Exists.intro (⟨x.nm,x.pri,x.fr,0⟩:Stn).d (And.intro ⟨hml,hdm,rfl,Nat.le_refl 4,rfl,rfl⟩ ?_))
    refine ar_add hb1 ?_
    exact fin _ (aft2 e (by omega))
   ·have e2:¬ x.fr=0:=e2
    refine ar_add (by omega) ?_
    repeat refine And.intro rfl ?_
    refine And.intro ⟨rfl,hml,by omega,h⟩ ?_
    refine Exists.intro _ (Exists.intro (⟨x.nm,x.pri,x.fr,min 1000 (x.wt+1)⟩:Stn).d (And.intro ⟨hml,hdm,rfl,Nat.le_refl 4,rfl,rfl⟩ ?_))
    refine ar_add hb1 ?_
    exact fin _ (aft3 e (by omega))
 ·have h:¬ (k:Int) < ((stns l).length:Int):=h
  refine And.intro hml ?_
  exact ag (mix_end (by omega))
end Vc
set_option maxRecDepth 10000
namespace Vc
open Go Go.Proofs
theorem within_ok {n a b:Int} (h:within3 n a b=0):a≤n∧n≤b:=by
 unfold within3 at h
 rcases Bool.eq_false_or_eq_true (decide (n < a)||decide (b < n)) with e | e
 ·rw [e] at h; cases h
 ·rw [Bool.or_eq_false_iff] at e
  have:=of_decide_eq_false e.1
  have:=of_decide_eq_false e.2
  omega
theorem chkSt_ok {names:List (List UInt8)} {x:Stn} (h:chkSt names x=0):x.ok :=
 ⟨within_ok (firstOf_zero h _ (by simp)),within_ok (firstOf_zero h (within3 x.fr 0 64) (by simp)),within_ok (firstOf_zero h (within3 x.wt 0 1000) (by simp))⟩
theorem chkGo_ok:∀ (l:List Stn) (names:List (List UInt8)),chkGo names l=0→∀ x∈l,x.ok
 | [],_,_=>fun _ h=>absurd h List.not_mem_nil
 | y::r,names,h=>by
  have h:(bif chkSt names y != 0 then chkSt names y else chkGo (names++[y.nm]) r)=0:=h
  rcases Bool.eq_false_or_eq_true (chkSt names y != 0) with e | e
  ·rw [e] at h
   have h:chkSt names y=0:=h
   rw [h] at e; cases e
  ·rw [e] at h
   intro x hx
   rcases List.mem_cons.1 hx with rfl | hx
   ·exact chkSt_ok (names:=names) (by simpa using e)
   ·exact chkGo_ok r _ h x hx
theorem chkStns_ok {l:List Stn} (h:chkStns l=0):(∀ x∈l,x.ok)∧l.length≤8:=by
 unfold chkStns at h
 rcases Bool.eq_false_or_eq_true (decide ((8:Int) < (l.length:Int))) with e | e
 ·rw [e] at h; cases h
 ·rw [e] at h
  exact ⟨chkGo_ok l [] h,by have:=of_decide_eq_false e; omega⟩
theorem win_go {l:List Stn}:∀ (n k:Nat) (out:Int) (b:Stn),k+n=l.length→wI l (k,out,b)→winF l=-1∨(0≤winF l∧∃ x,l[(winF l).toNat]?=some x∧0 < x.fr)
 | 0,k,out,b,hk,hi=>by
  obtain ⟨h1,h2⟩:=hi
  have h1:winF l=wGo out b k (l.drop k):=h1
  rw [List.drop_eq_nil_of_le (by omega)] at h1
  have h1:winF l=out:=h1
  rw [h1]
  rcases h2 with h2 | ⟨h2,_,h3,h4⟩
  ·exact .inl h2
  ·exact .inr ⟨h2,b,h3,h4⟩
 | n+1,k,out,b,hk,hi=>by
  obtain ⟨x,hx⟩:∃ x,l[k]?=some x:=⟨_,List.getElem?_eq_getElem (by omega)⟩
  rcases Bool.eq_false_or_eq_true (better out b x) with e | e
  ·exact win_go n (k+1) _ _ (by omega) (wI_yes hx hi e)
  ·exact win_go n (k+1) _ _ (by omega) (wI_no hx hi e)
theorem win_fr (l:List Stn):winF l=-1∨(0≤winF l∧∃ x,l[(winF l).toNat]?=some x∧0 < x.fr):=win_go l.length 0 _ _ (by omega) (wI_start l)
theorem aft_ok {l:List Stn} (ho:∀ x∈l,x.ok):∀ y∈aftF l (winF l),y.ok:=by
 intro y hy
 obtain ⟨k,hk⟩:=List.getElem?_of_mem hy
 obtain ⟨hkl,_⟩:=List.getElem?_eq_some_iff.1 hk
 rw [aft_len] at hkl
 obtain ⟨x,hx⟩:∃ x,l[k]?=some x:=⟨_,List.getElem?_eq_getElem hkl⟩
 rw [aft_at hx] at hk
 obtain ⟨h1,⟨h2,h3⟩,h4,h5⟩:=ho x (List.mem_of_getElem? hx)
 have hk:=Option.some.inj hk
 subst hk
 rcases Bool.eq_false_or_eq_true ((k:Int)==winF l) with e | e
 ·rw [aft1 e]
  have e:=eq_of_beq e
  rcases win_fr l with h | ⟨_,z,hz,hf⟩
  ·omega
  ·rw [← e,show (k:Int).toNat=k from rfl,hx] at hz
   have hz:=Option.some.inj hz
   subst hz
   exact ⟨h1,⟨by show 0≤x.fr - 1; omega,by show x.fr - 1≤64; omega⟩,by show (0:Int)≤0; omega,by show (0:Int)≤1000; omega⟩
 ·by_cases hf:0 < x.fr
  ·rw [aft3 e hf]
   exact ⟨h1,⟨h2,h3⟩,by show 0≤min 1000 (x.wt+1); omega,by show min 1000 (x.wt+1)≤1000; omega⟩
  ·rw [aft2 e hf]
   exact ⟨h1,⟨h2,h3⟩,by show (0:Int)≤0; omega,by show (0:Int)≤1000; omega⟩
def srvGo:Nat→List Stn→List Int × List Stn
 | 0,l=>([],l)
 | n+1,l=>bif decide (winF l < 0) then ([],l) else (winF l::(srvGo n (aftF l (winF l))).1,(srvGo n (aftF l (winF l))).2)
def cAt (c:List Bool) (i:Nat):Bool:=(c[i % c.length]?).getD false
def opnTo (c:List Bool) (f:Nat):Nat→List Int
 | 0=>[]
 | k+1=>bif cAt c (f+k) then opnTo c f k++[((f+k:Nat):Int)] else opnTo c f k
theorem opn_mono (c:List Bool) (f k:Nat):∀ j:Nat,(opnTo c f k).length≤(opnTo c f (k+j)).length
 | 0=>Nat.le_refl _
 | j+1=>by
  have:=opn_mono c f k j
  rw [show k+(j+1)=(k+j)+1 by omega,opnTo]
  cases cAt c (f+(k+j))
  ·exact this
  ·show _≤(opnTo c f (k+j)++[_]).length
   rw [List.length_append]; omega
theorem mod_hit {n p f:Nat} (hp:p < n):∃ j,j < n∧(f+j) % n=p:=by
 have h1:=Nat.div_add_mod f n
 have h2:=Nat.mod_lt f (show 0 < n by omega)
 by_cases h:f % n≤p
 ·refine ⟨p - f % n,by omega,?_⟩
  rw [show f+(p - f % n)=n * (f / n)+p by omega,Nat.mul_add_mod,Nat.mod_eq_of_lt hp]
 ·refine ⟨n - f % n+p,by omega,?_⟩
  rw [show f+(n - f % n+p)=n * (f / n+1)+p by rw [Nat.mul_add,Nat.mul_one]; omega,Nat.mul_add_mod,Nat.mod_eq_of_lt hp]
theorem opn_more {c:List Bool} (hc:c.contains true=true) (f k:Nat):(opnTo c f k).length+1≤(opnTo c f (k+c.length)).length:=by
 have hm:true∈c:=by simpa using hc
 obtain ⟨p,hp⟩:=List.getElem?_of_mem hm
 obtain ⟨hpl,_⟩:=List.getElem?_eq_some_iff.1 hp
 obtain ⟨j,hj,e⟩:=mod_hit (f:=f+k) hpl
 have h1:=opn_mono c f k j
 have h2:=opn_mono c f (k+j+1) (c.length - j - 1)
 rw [show k+j+1+(c.length - j - 1)=k+c.length by omega] at h2
 have e2:cAt c (f+(k+j))=true:=by unfold cAt; rw [← Nat.add_assoc,e,hp]; rfl
 rw [opnTo,e2] at h2
 have h2:(opnTo c f (k+j)++[((f+(k+j):Nat):Int)]).length≤_:=h2
 rw [List.length_append] at h2
 simp only [List.length_singleton] at h2
 omega
theorem opn_count {c:List Bool} (hc:c.contains true=true) (f:Nat):∀ m:Nat,m≤(opnTo c f (m * c.length)).length
 | 0=>Nat.zero_le _
 | m+1=>by
  have h1:=opn_count hc f m
  have h2:=opn_more hc f (m * c.length)
  rw [Nat.add_mul,Nat.one_mul]; omega
theorem opn_lt {c:List Bool} (hc:c.contains true=true) {f k n:Nat} (h:(opnTo c f k).length < n):k < n * c.length:=by
 rcases Nat.lt_or_ge k (n * c.length) with e | e
 ·exact e
 ·exfalso
  have h1:=opn_count hc f n
  have h2:=opn_mono c f (n * c.length) (k - n * c.length)
  rw [show n * c.length+(k - n * c.length)=k by omega] at h2
  omega
def opnGo (c:List Bool) (f n:Nat):Nat→Nat→List Int→List Int
 | 0,_,acc=>acc
 | m+1,k,acc=>bif decide ((acc.length:Int) < (n:Int)) then opnGo c f n m (k+1) (bif cAt c (f+k) then acc++[((f+k:Nat):Int)] else acc) else acc
def opnF (c:List Bool) (f n:Nat):List Int:=opnGo c f n (n * c.length) 0 []
def opnI (c:List Bool) (f n:Nat) (a:Nat × List Int):Prop:=a.2=opnTo c f a.1∧a.1≤n * c.length∧opnF c f n=opnGo c f n (n * c.length - a.1) a.1 a.2
theorem opnI_start (c:List Bool) (f n:Nat):opnI c f n (0,[]):=⟨rfl,Nat.zero_le _,rfl⟩
theorem opnI_step {c : List Bool} {f n k : Nat} {acc : List Int} (hc : c.contains true = true) (hi : opnI c f n (k, acc)) (h : (acc.length : Int) < (n : Int)) :
  k < n * c.length∧opnI c f n (k+1,bif cAt c (f+k) then acc++[((f+k:Nat):Int)] else acc):=by
 obtain ⟨h1,h2,h3⟩:=hi
 have h1:acc=opnTo c f k:=h1
 have h3:opnF c f n=opnGo c f n (n * c.length - k) k acc:=h3
 have hk:k < n * c.length:=opn_lt hc (f:=f) (by rw [← h1]; omega)
 refine ⟨hk,?_,by show k+1≤_; omega,?_⟩
 ·show (bif cAt c (f+k) then acc++[((f+k:Nat):Int)] else acc)=opnTo c f (k+1)
  rw [opnTo,h1]
 ·obtain ⟨m,hm⟩:∃ m,n * c.length - k=m+1:=⟨n * c.length - k - 1,by omega⟩
  rw [h3,hm,opnGo,decide_eq_true h]
  show opnGo c f n m (k+1) _=opnGo c f n (n * c.length - (k+1)) (k+1) _
  rw [show n * c.length - (k+1)=m by omega]
theorem opnI_end {c:List Bool} {f n k:Nat} {acc:List Int} (hi:opnI c f n (k,acc)) (h:¬ (acc.length:Int) < (n:Int)):opnF c f n=acc:=by
 have h3:opnF c f n=opnGo c f n (n * c.length - k) k acc:=hi.2.2
 rw [h3]
 cases n * c.length - k with
 | zero=>rfl
 | succ m=>rw [opnGo,decide_eq_false h]; rfl
theorem opn_len_le (c:List Bool) (f k:Nat):(opnTo c f k).length≤k:=by
 induction k with
 | zero=>exact Nat.le_refl _
 | succ k ih =>
  rw [opnTo]
  cases cAt c (f+k)
  ·show (opnTo c f k).length≤_; omega
  ·show (opnTo c f k++[_]).length≤_; rw [List.length_append]; simp only [List.length_singleton]; omega
def accW (c:List Bool) (i:Nat) (l:List Stn):Int:=bif cAt c i then winF l else -1
def accN (w:Int) (l:List Stn):List Stn:=bif decide (0≤w) then aftF l w else l
def accGo (c:List Bool):Nat→Nat→List Stn→List Int
 | 0,_,_=>[]
 | m+1,i,l=>accW c i l::accGo c m (i+1) (accN (accW c i l) l)
def accI (c:List Bool) (l:List Stn) (n:Nat) (a:Nat × List Int × List Stn):Prop :=
 accGo c n 0 l=a.2.1++accGo c (n - a.1) a.1 a.2.2∧(∀ x∈a.2.2,x.ok)∧a.2.2.length=l.length∧a.2.1.length=a.1∧a.1≤n
theorem accI_start {c:List Bool} {l:List Stn} {n:Nat} (ho:∀ x∈l,x.ok):accI c l n (0,[],l):=⟨rfl,ho,rfl,rfl,Nat.zero_le _⟩
theorem accN_ok {c:List Bool} {i:Nat} {l:List Stn} (ho:∀ x∈l,x.ok):(∀ x∈accN (accW c i l) l,x.ok)∧(accN (accW c i l) l).length=l.length:=by
 unfold accN accW
 cases cAt c i
 ·exact ⟨ho,rfl⟩
 ·show (∀ x∈bif decide (0≤winF l) then aftF l (winF l) else l,x.ok)∧(bif decide (0≤winF l) then aftF l (winF l) else l).length=l.length
  cases decide (0≤winF l)
  ·exact ⟨ho,rfl⟩
  ·exact ⟨aft_ok ho,aft_len _ _⟩
theorem accI_step {c:List Bool} {l:List Stn} {n i:Nat} {acc:List Int} {now:List Stn} (hi:accI c l n (i,acc,now)) (h:i < n) {w:Int} (hw:w=accW c i now):accI c l n (i+1,acc++[w],accN w now):=by
 subst hw
 obtain ⟨h1,h2,h3,h4,h5⟩:=hi
 have h1:accGo c n 0 l=acc++accGo c (n - i) i now:=h1
 have h3:now.length=l.length:=h3
 have h4:acc.length=i:=h4
 refine ⟨?_,(accN_ok h2).1,(accN_ok h2).2.trans h3,by show (acc++[accW c i now]).length=i+1; rw [List.length_append,h4]; rfl,by show i+1≤n; omega⟩
 obtain ⟨m,hm⟩:∃ m,n - i=m+1:=⟨n - i - 1,by omega⟩
 rw [h1,hm,accGo]
 show _=(acc++[accW c i now])++accGo c (n - (i+1)) (i+1) _
 rw [show n - (i+1)=m by omega,List.append_assoc]; rfl
theorem accI_end {c:List Bool} {l:List Stn} {n i:Nat} {acc:List Int} {now:List Stn} (hi:accI c l n (i,acc,now)) (h:n≤i):accGo c n 0 l=acc:=by
 have h1:accGo c n 0 l=acc++accGo c (n - i) i now:=hi.1
 rw [h1,show n - i=0 by omega]
 simp [accGo]
end Vc
set_option maxRecDepth 10000
namespace Vc
open Go Go.Proofs
def blsD (c:List Bool):List Data:=c.map .bool
theorem bls_len (c:List Bool):(blsD c).length=c.length:=List.length_map _
def chkCyc (c:List Bool):Int:=firstOf [bif ((c.length:Int)==0) then 12 else 0,bif decide ((16:Int) < (c.length:Int)) then 5 else 0]
def ir110:AFun:=⟨13,1,[.tmp 2],
 (.seq
 (.reg [] [⟨some 2,.mov (.cst (.d (.int .i64 0))),none⟩])
 (.seq
 (.reg [0] [⟨some 3,.mov (.tmp 0),none⟩,
 ⟨some 4,.len (.tmp 3),none⟩,
 ⟨some 5,.cmp .eql (.tmp 4) (.cst (.d (.int .i64 0))),none⟩,
 ⟨some 6,.call 37 [(.tmp 5),(.cst (.d (.int .i64 12)))],none⟩,
 ⟨some 7,.mov (.tmp 0),none⟩,
 ⟨some 8,.len (.tmp 7),none⟩,
 ⟨some 9,.cmp .gtr (.tmp 8) (.cst (.d (.int .i64 16))),none⟩,
 ⟨some 10,.call 37 [(.tmp 9),(.cst (.d (.int .i64 5)))],none⟩,
 ⟨some 11,.bsl 0 30 1 2 [(.int .i64 0),(.int .i64 0)] [(0,(.tmp 6)),(1,(.tmp 10))],none⟩,
 ⟨some 12,.call 33 [(.tmp 11)],none⟩,
 ⟨some 2,.mov (.tmp 12),none⟩])
 .ret))⟩
def ir111:AFun:=⟨9,0,[.tmp 4],
 (.seq
 (.reg [] [⟨some 4,.mov (.cst (.d (.bool false))),none⟩])
 (.seq
 (.reg [] [⟨some 5,.mov (.tmp 0),none⟩,
 ⟨some 6,.mov (.tmp 1),none⟩,
 ⟨some 7,.call 56 [(.tmp 5),(.tmp 6)],none⟩,
 ⟨some 8,.cmp .geq (.tmp 7) (.cst (.d (.int .i64 0))),none⟩,
 ⟨some 4,.mov (.tmp 8),none⟩])
 .ret))⟩
def ir142:AFun:=⟨19,0,[.tmp 4],
 (.seq
 (.reg [] [⟨some 4,.mov (.cst (.d (.int .i64 0))),none⟩])
 (.seq
 (.seq
 (.reg [] [⟨some 6,.mov (.tmp 0),none⟩,
 ⟨some 7,.len (.tmp 6),none⟩,
 ⟨some 8,.mov (.cst (.d (.int .i64 0))),none⟩])
 (.post [] []
 (.block 0
 (.keep [0,1,7,8] []
 (.loop
 (.post [0,1,7,8] []
 (.seq
 (.reg [] [⟨some 9,.cmp .lss (.tmp 8) (.tmp 7),none⟩])
 (.seq
 (.cond (.tmp 9)
 .skip
 (.exit 0))
 (.seq
 (.block 1
 (.seq
 (.reg [] [⟨some 10,.mov (.tmp 8),none⟩,
 ⟨some 5,.mov (.tmp 10),none⟩])
 (.seq
 (.reg [] [⟨some 11,.mov (.tmp 1),none⟩,
 ⟨some 12,.mov (.tmp 0),none⟩,
 ⟨some 13,.mov (.tmp 5),none⟩,
 ⟨some 14,.ixa 1 (.tmp 12) (.tmp 13),none⟩,
 ⟨some 15,.ld false 1 (.tmp 14),none⟩,
 ⟨some 16,.beq false (.tmp 11) (.tmp 15),none⟩])
 (.cond (.tmp 16)
 (.seq
 (.reg [] [⟨some 17,.mov (.tmp 5),none⟩,
 ⟨some 4,.mov (.tmp 17),none⟩])
 .ret)
 .skip))))
 (.reg [] [⟨some 18,.arith .add .i64 (.tmp 8) (.cst (.d (.int .i64 1))),none⟩,
 ⟨some 8,.mov (.tmp 18),none⟩]))))))))))
 (.seq
 (.reg [] [⟨some 4,.mov (.cst (.d (.int .i64 (-1)))),none⟩])
 .ret)))⟩
theorem c110 (c:List Bool):CallDet Try.prog 35 [.d (.slice 1 (blsD c))] [.int .i64 (chkCyc c)]:=by
 refine call_of_vc (x:=ir110) (by kernel_rfl) rfl ?_
 have e:chkCyc c=firstOf [bif (((blsD c).length:Int)==0) then 12 else 0,bif decide ((16:Int) < ((blsD c).length:Int)) then 5 else 0]:=by rw [bls_len]; rfl
 refine And.intro rfl ?_
 refine Exists.intro _ (And.intro (c83 _ _) ?_)
 refine And.intro rfl ?_
 refine Exists.intro _ (And.intro (c83 _ _) ?_)
 repeat refine And.intro rfl ?_
 refine Exists.intro _ (And.intro (c81 [bif (((blsD c).length:Int)==0) then 12 else 0,bif decide ((16:Int) < ((blsD c).length:Int)) then 5 else 0] (by simp)) ?_)
 exact (congrArg (fun d=>resV [.int .i64 d]) e).symm
def ixB (x:Bool):List Bool→Int→Int
 | [],_=>-1
 | y::r,k=>bif x==y then k else ixB x r (k+1)
theorem ixB_ge (x:Bool):∀ (l:List Bool) (k:Int),0≤k→decide (0≤ixB x l k)=l.contains x
 | [],_,_=>rfl
 | y::r,k,h=>by
  rw [List.contains_cons,ixB]
  cases x==y
  ·exact ixB_ge x r (k+1) (by omega)
  ·exact decide_eq_true h
theorem c142 (l:List Bool) (x:Bool) (hl:l.length≤1048576):CallDet Try.prog 56 [.d (.slice 1 (blsD l)),.d (.bool x)] [.int .i64 (ixB x l 0)]:=by
 have hlen:=bls_len l
 refine call_of_vc (x:=ir142) (by kernel_rfl) rfl ?_
 refine loop_st (fun k:Nat=>⟨[(0,.d (.slice 1 (blsD l))),(1,.d (.bool x)),(7,.d (.int .i64 ((blsD l).length:Int))),(8,.d (.int .i64 k))],[]⟩)
  (fun k=>ixB x l 0=ixB x (l.drop k) k) (fun k=>l.length - k) 0 rfl rfl ?_
 intro k hi
 refine And.intro rfl ?_
 refine brk_lt (fun h=>?_) (fun h=>?_)
 ·have h:(k:Int) < ((blsD l).length:Int):=h
  refine Exists.elim (⟨_,List.getElem?_eq_getElem (by omega)⟩:∃ y,l[k]?=some y) fun y hy=>?_
  have hd:(blsD l)[(k:Int).toNat]?=some (.bool y):=by simp [blsD,hy]
  obtain ⟨hl2,e⟩:=List.getElem?_eq_some_iff.1 hy
  rw [List.drop_eq_getElem_cons hl2,e,ixB] at hi
  refine ix_at hd (by omega) ?_
  refine brk_intro ?_ ?_
  ·intro hb
   have hb:(x==y)=true:=hb
   have:ixB x l 0=k:=by rw [hi,hb]; rfl
   exact (congrArg (fun b=>resV [.int .i64 b]) this).symm
  ·intro hb
   have hb:(x==y)=false:=hb
   refine ar_add (by omega) ?_
   refine ⟨k+1,⟨?_,by show l.length - (k+1) < l.length - k; omega⟩,rfl⟩
   rw [hi,hb]; rfl
 ·have h:¬ (k:Int) < ((blsD l).length:Int):=h
  have:ixB x l 0=-1:=by rw [hi,List.drop_eq_nil_of_le (by omega)]; rfl
  exact (congrArg (fun b=>resV [.int .i64 b]) this).symm
theorem c111 (l:List Bool) (x:Bool) (hl:l.length≤1048576):CallDet Try.prog 38 [.d (.slice 1 (blsD l)),.d (.bool x)] [.bool (l.contains x)]:=by
 refine call_of_vc (x:=ir111) (by kernel_rfl) rfl ?_
 refine Exists.intro _ (And.intro (c142 l x hl) ?_)
 refine And.intro rfl ?_
 exact congrArg (fun b=>resV [.bool b]) (ixB_ge x l 0 (Int.le_refl _))
end Vc
set_option maxRecDepth 10000
namespace Vc
open Go Go.Proofs
def srvE (l:List Stn) (n:Int):Int:=firstOf [chkStns l,within3 n 0 256]
def srvP (l:List Stn) (n:Int):List Int × List Stn:=bif srvE l n != 0 then ([],[]) else srvGo n.toNat l
def opnE (c:List Bool) (f n:Int):Int:=firstOf [chkCyc c,within3 f 0 999999999,within3 n 0 256,bif !(c.contains true) then 7 else 0]
def opnP (c:List Bool) (f n:Int):List Int:=bif opnE c f n != 0 then [] else opnF c f.toNat n.toNat
def accE (l:List Stn) (c:List Bool) (n:Int):Int:=firstOf [chkStns l,chkCyc c,within3 n 0 256,bif !(c.contains true) then 7 else 0]
def accP (l:List Stn) (c:List Bool) (n:Int):List Int:=bif accE l c n != 0 then [] else accGo c n.toNat 0 l
theorem has_zero {b:Bool} (h:(bif !b then (7:Int) else 0)=0):b=true:=by cases b <;> simp_all
theorem cyc_ok {c:List Bool} (h:chkCyc c=0):1≤c.length∧c.length≤16:=by
 have h1:=firstOf_zero h (bif ((c.length:Int)==0) then 12 else 0) (by simp)
 have h2:=firstOf_zero h (bif decide ((16:Int) < (c.length:Int)) then 5 else 0) (by simp)
 rcases Bool.eq_false_or_eq_true ((c.length:Int)==0) with e | e
 ·rw [e] at h1; cases h1
 ·rcases Bool.eq_false_or_eq_true (decide ((16:Int) < (c.length:Int))) with e2 | e2
  ·rw [e2] at h2; cases h2
  ·have:=ne_of_beq_false e
   have:=of_decide_eq_false e2
   omega
theorem sg {l:List Stn} {n:Nat} {p:List Int × List Stn} (h:srvGo n l=p):resV [.slice 1 (ints p.1),.slice 4 (stns p.2)]=resV [.slice 1 (ints (srvGo n l).1),.slice 4 (stns (srvGo n l).2)]:=by rw [h]
theorem sp' {l:List Stn} {n:Int} {p:List Int × List Stn} {e:Int} (h:srvP l n=p) (he:srvE l n=e):resV [.slice 1 (ints p.1),.slice 4 (stns p.2),.int .i64 e]=resV [.slice 1 (ints (srvP l n).1),.slice 4 (stns (srvP l n).2),.int .i64 (srvE l n)]:=by rw [h,he]
theorem ints_snoc (l:List Int) (x:Int):ints (l++[x])=ints l++[.int .i64 x]:=by simp [ints]
theorem ints_len (l:List Int):(ints l).length=l.length:=by simp [ints]
end Vc
set_option maxRecDepth 10000
namespace Vc
open Go Go.Proofs
theorem op' {c:List Bool} {f n:Int} {p:List Int} {e:Int} (h:opnP c f n=p) (he:opnE c f n=e):resV [.slice 1 (ints p),.int .i64 e]=resV [.slice 1 (ints (opnP c f n)),.int .i64 (opnE c f n)]:=by rw [h,he]
theorem cAt_get {c:List Bool} (i:Nat) (h:1≤c.length):(blsD c)[((i:Nat):Int).toNat % c.length]?=some (.bool (cAt c i)):=by
 have hl:i % c.length < c.length:=Nat.mod_lt _ (by omega)
 show (c.map Data.bool)[i % c.length]?=_
 unfold cAt
 rw [List.getElem?_map,List.getElem?_eq_getElem hl]; rfl
theorem cAt_ix {c:List Bool} (i:Nat) (h:1≤c.length):(blsD c)[(((i:Nat):Int) % ((blsD c).length:Int)).toNat]?=some (.bool (cAt c i)):=by
 rw [bls_len,show ((i:Nat):Int) % (c.length:Int)=((i % c.length:Nat):Int) from rfl]
 exact cAt_get i h
def ir58:AFun:=⟨45,3,[.tmp 6,.tmp 7],
 (.seq
 (.reg [] [⟨some 6,.mov (.cst (.nils 1)),none⟩,
 ⟨some 7,.mov (.cst (.d (.int .i64 0))),none⟩])
 (.seq
 (.seq
 (.reg [0] [⟨some 11,.mov (.tmp 0),none⟩,
 ⟨some 12,.call 35 [(.tmp 11)],none⟩,
 ⟨some 13,.mov (.tmp 1),none⟩,
 ⟨some 14,.call 36 [(.tmp 13),(.cst (.d (.int .i64 0))),(.cst (.d (.int .i64 999999999)))],none⟩,
 ⟨some 15,.mov (.tmp 2),none⟩,
 ⟨some 16,.call 36 [(.tmp 15),(.cst (.d (.int .i64 0))),(.cst (.d (.int .i64 256)))],none⟩,
 ⟨some 17,.mov (.tmp 0),none⟩,
 ⟨some 18,.call 38 [(.tmp 17),(.cst (.d (.bool true)))],none⟩,
 ⟨some 19,.not (.tmp 18),none⟩,
 ⟨some 20,.call 37 [(.tmp 19),(.cst (.d (.int .i64 7)))],none⟩,
 ⟨some 21,.bsl 0 30 1 4 [(.int .i64 0),(.int .i64 0),(.int .i64 0),(.int .i64 0)] [(0,(.tmp 12)),(1,(.tmp 14)),(2,(.tmp 16)),(3,(.tmp 20))],none⟩,
 ⟨some 22,.call 33 [(.tmp 21)],none⟩,
 ⟨some 8,.mov (.tmp 22),none⟩])
 (.seq
 (.reg [] [⟨some 23,.mov (.tmp 8),none⟩,
 ⟨some 24,.cmp .neq (.tmp 23) (.cst (.d (.int .i64 0))),none⟩])
 (.cond (.tmp 24)
 (.seq
 (.reg [] [⟨some 25,.mov (.tmp 8),none⟩,
 ⟨some 6,.mov (.cst (.nils 1)),none⟩,
 ⟨some 7,.mov (.tmp 25),none⟩])
 .ret)
 .skip)))
 (.seq
 (.reg [] [⟨some 9,.mov (.cst (.nils 1)),none⟩])
 (.seq
 (.seq
 (.reg [] [⟨some 26,.mov (.tmp 1),none⟩,
 ⟨some 10,.mov (.tmp 26),none⟩])
 (.post [9] [0,1,2]
 (.block 0
 (.asrow 2 3 1 9
 (.keep [0,2,9,10] [0]
 (.loop
 (.post [0,2,9,10] [1,2]
 (.seq
 (.seq
 (.reg [] [⟨some 27,.mov (.tmp 9),none⟩,
 ⟨some 28,.len (.tmp 27),none⟩,
 ⟨some 29,.mov (.tmp 2),none⟩,
 ⟨some 30,.cmp .lss (.tmp 28) (.tmp 29),none⟩])
 (.cond (.tmp 30)
 .skip
 (.exit 0)))
 (.seq
 (.block 1
 (.seq
 (.reg [] [⟨some 33,.mov (.tmp 0),none⟩,
 ⟨some 34,.mov (.tmp 10),none⟩,
 ⟨some 35,.mov (.tmp 0),none⟩,
 ⟨some 36,.len (.tmp 35),none⟩,
 ⟨some 37,.arith .rem .i64 (.tmp 34) (.tmp 36),none⟩,
 ⟨some 38,.ixa 1 (.tmp 33) (.tmp 37),none⟩,
 ⟨some 39,.ld false 1 (.tmp 38),none⟩])
 (.cond (.tmp 39)
 (.reg [1,2] [⟨some 40,.mov (.tmp 9),none⟩,
 ⟨some 41,.mov (.tmp 10),none⟩,
 ⟨some 42,.bsl 1 3 1 1 [(.int .i64 0)] [(0,(.tmp 41))],none⟩,
 ⟨some 43,.app 2 3 1 8 (.tmp 40) (.tmp 42),none⟩,
 ⟨some 9,.mov (.tmp 43),none⟩])
 .skip)))
 (.reg [] [⟨some 31,.mov (.tmp 10),none⟩,
 ⟨some 32,.arith .add .i64 (.tmp 31) (.cst (.d (.int .i64 1))),none⟩,
 ⟨some 10,.mov (.tmp 32),none⟩]))))))))))
 (.seq
 (.reg [] [⟨some 44,.mov (.tmp 9),none⟩,
 ⟨some 6,.mov (.tmp 44),none⟩,
 ⟨some 7,.mov (.cst (.d (.int .i64 0))),none⟩])
 .ret)))))⟩
set_option maxHeartbeats 4000000 in
theorem c58 (c:List Bool) (f n:Int) (hc0:c.length≤1048576):CallDet Try.prog 16 [.d (.slice 1 (blsD c)),.d (.int .i64 f),.d (.int .i64 n)] [.slice 1 (ints (opnP c f n)),.int .i64 (opnE c f n)]:=by
 have hlen:=bls_len c
 refine call_of_vc (x:=ir58) (by kernel_rfl) rfl ?_
 refine Exists.intro _ (And.intro (c110 c) ?_)
 refine Exists.intro _ (And.intro (c82 _ _ _) ?_)
 refine Exists.intro _ (And.intro (c82 _ _ _) ?_)
 refine Exists.intro _ (And.intro (c111 c true hc0) ?_)
 refine Exists.intro _ (And.intro (c83 _ _) ?_)
 repeat refine And.intro rfl ?_
 refine Exists.intro _ (And.intro (c81 [chkCyc c,within3 f 0 999999999,within3 n 0 256,bif !(c.contains true) then 7 else 0] (by simp)) ?_)
 repeat refine And.intro rfl ?_
 refine brk_intro ?_ ?_
 ·intro h
  have h:(opnE c f n != 0)=true:=h
  exact op' (p:=[]) (by unfold opnP; rw [h]; rfl) rfl
 intro h
 have h:(opnE c f n != 0)=false:=h
 have h0:opnE c f n=0:=by simpa using h
 have hcl:=cyc_ok (firstOf_zero h0 (chkCyc c) (by simp))
 have hf:=within_ok (firstOf_zero h0 (within3 f 0 999999999) (by simp))
 have hn:=within_ok (firstOf_zero h0 (within3 n 0 256) (by simp))
 have hc:=has_zero (firstOf_zero h0 (bif !(c.contains true) then 7 else 0) (by simp))
 have hP:opnP c f n=opnF c f.toNat n.toNat:=by unfold opnP; rw [h]; rfl
 obtain ⟨g,rfl⟩:∃ m:Nat,f=m:=⟨f.toNat,by omega⟩
 obtain ⟨m,rfl⟩:∃ m:Nat,n=m:=⟨n.toNat,by omega⟩
 have hP:opnP c g m=opnF c g m:=hP
 have hm:m≤256:=by omega
 have hN:m * c.length≤256 * 16:=Nat.mul_le_mul hm hcl.2
 refine loop_st (fun a:Nat × List Int=>⟨[(0,.d (.slice 1 (blsD c))),(2,.d (.int .i64 m)),(9,.sl 2 (ints a.2).length),(10,.d (.int .i64 ((g+a.1:Nat):Int)))],[.none,.none,.row 3 1 (ints a.2) false]⟩)
  (opnI c g m) (fun a=>m * c.length - a.1) (0,[]) rfl (opnI_start c g m) ?_
 rintro ⟨k,acc⟩ hi
 have hil:=ints_len acc
 refine And.intro rfl ?_
 refine And.intro rfl ?_
 refine brk_lt (fun h=>?_) (fun h=>?_)
 ·have h:((ints acc).length:Int) < (m:Int):=h
  have h2:(acc.length:Int) < (m:Int):=by omega
  obtain ⟨hk,hs⟩:=opnI_step hc hi h2
  have hA:-9223372036854775808≤((g+k:Nat):Int)+1∧((g+k:Nat):Int)+1≤9223372036854775807:=by omega
  have hR:0≤((g+k:Nat):Int)∧1≤((blsD c).length:Int):=by omega
  refine ar_rem hR ?_
  refine ix_at (cAt_ix (g+k) hcl.1) (Int.emod_nonneg _ (by omega)) ?_
  refine brk_intro ?_ ?_
  ·intro e
   have e:cAt c (g+k)=true:=e
   rw [e] at hs
   repeat refine And.intro rfl ?_
   refine And.intro ⟨rfl,rfl,rfl,?_,?_⟩ ?_
   ·show ((ints acc).length+1) * 8≤2 ^ 47
    omega
   ·show (ints acc).length+1≤2 ^ 47
    omega
   refine ar_add hA ?_
   refine ⟨(k+1,acc++[((g+k:Nat):Int)]),⟨hs,by show m * c.length - (k+1) < m * c.length - k; omega⟩,?_⟩
   rw [ints_snoc]; rfl
  ·intro e
   have e:cAt c (g+k)=false:=e
   rw [e] at hs
   refine ar_add hA ?_
   exact ⟨(k+1,acc),⟨hs,by show m * c.length - (k+1) < m * c.length - k; omega⟩,rfl⟩
 ·have h:¬ ((ints acc).length:Int) < (m:Int):=h
  have h2:¬ (acc.length:Int) < (m:Int):=by omega
  repeat refine And.intro rfl ?_
  exact op' (p:=acc) (hP.trans (opnI_end hi h2)) h0
end Vc
set_option maxRecDepth 10000
namespace Vc
open Go Go.Proofs
theorem acp {l:List Stn} {c:List Bool} {n:Int} {p:List Int} {e:Int} (h:accP l c n=p) (he:accE l c n=e):resV [.slice 1 (ints p),.int .i64 e]=resV [.slice 1 (ints (accP l c n)),.int .i64 (accE l c n)]:=by rw [h,he]
def ir59:AFun:=⟨54,3,[.tmp 6,.tmp 7],
 (.seq
 (.reg [] [⟨some 6,.mov (.cst (.nils 1)),none⟩,
 ⟨some 7,.mov (.cst (.d (.int .i64 0))),none⟩])
 (.seq
 (.seq
 (.reg [0] [⟨some 13,.mov (.tmp 0),none⟩,
 ⟨some 14,.call 34 [(.tmp 13)],none⟩,
 ⟨some 15,.mov (.tmp 1),none⟩,
 ⟨some 16,.call 35 [(.tmp 15)],none⟩,
 ⟨some 17,.mov (.tmp 2),none⟩,
 ⟨some 18,.call 36 [(.tmp 17),(.cst (.d (.int .i64 0))),(.cst (.d (.int .i64 256)))],none⟩,
 ⟨some 19,.mov (.tmp 1),none⟩,
 ⟨some 20,.call 38 [(.tmp 19),(.cst (.d (.bool true)))],none⟩,
 ⟨some 21,.not (.tmp 20),none⟩,
 ⟨some 22,.call 37 [(.tmp 21),(.cst (.d (.int .i64 7)))],none⟩,
 ⟨some 23,.bsl 0 30 1 4 [(.int .i64 0),(.int .i64 0),(.int .i64 0),(.int .i64 0)] [(0,(.tmp 14)),(1,(.tmp 16)),(2,(.tmp 18)),(3,(.tmp 22))],none⟩,
 ⟨some 24,.call 33 [(.tmp 23)],none⟩,
 ⟨some 8,.mov (.tmp 24),none⟩])
 (.seq
 (.reg [] [⟨some 25,.mov (.tmp 8),none⟩,
 ⟨some 26,.cmp .neq (.tmp 25) (.cst (.d (.int .i64 0))),none⟩])
 (.cond (.tmp 26)
 (.seq
 (.reg [] [⟨some 27,.mov (.tmp 8),none⟩,
 ⟨some 6,.mov (.cst (.nils 1)),none⟩,
 ⟨some 7,.mov (.tmp 27),none⟩])
 .ret)
 .skip)))
 (.seq
 (.reg [] [⟨some 9,.mov (.cst (.nils 1)),none⟩])
 (.seq
 (.reg [] [⟨some 28,.mov (.tmp 0),none⟩,
 ⟨some 29,.call 39 [(.tmp 28)],none⟩,
 ⟨some 10,.mov (.tmp 29),none⟩])
 (.seq
 (.seq
 (.reg [] [⟨some 30,.mov (.tmp 2),none⟩,
 ⟨some 31,.mov (.cst (.d (.int .i64 0))),none⟩])
 (.post [9] [0,1,2]
 (.block 0
 (.asrow 2 3 1 9
 (.keep [1,9,10,30,31] [0]
 (.loop
 (.post [1,9,10,30,31] [1,2]
 (.seq
 (.reg [] [⟨some 32,.cmp .lss (.tmp 31) (.tmp 30),none⟩])
 (.seq
 (.cond (.tmp 32)
 .skip
 (.exit 0))
 (.seq
 (.block 1
 (.seq
 (.reg [] [⟨some 33,.mov (.tmp 31),none⟩,
 ⟨some 11,.mov (.tmp 33),none⟩])
 (.seq
 (.reg [] [⟨some 12,.mov (.cst (.d (.int .i64 (-1)))),none⟩])
 (.seq
 (.seq
 (.reg [] [⟨some 34,.mov (.tmp 1),none⟩,
 ⟨some 35,.mov (.tmp 11),none⟩,
 ⟨some 36,.mov (.tmp 1),none⟩,
 ⟨some 37,.len (.tmp 36),none⟩,
 ⟨some 38,.arith .rem .i64 (.tmp 35) (.tmp 37),none⟩,
 ⟨some 39,.ixa 1 (.tmp 34) (.tmp 38),none⟩,
 ⟨some 40,.ld false 1 (.tmp 39),none⟩])
 (.cond (.tmp 40)
 (.reg [] [⟨some 41,.mov (.tmp 10),none⟩,
 ⟨some 42,.call 40 [(.tmp 41)],none⟩,
 ⟨some 12,.mov (.tmp 42),none⟩])
 .skip))
 (.seq
 (.seq
 (.reg [] [⟨some 43,.mov (.tmp 12),none⟩,
 ⟨some 44,.cmp .geq (.tmp 43) (.cst (.d (.int .i64 0))),none⟩])
 (.cond (.tmp 44)
 (.reg [] [⟨some 45,.mov (.tmp 10),none⟩,
 ⟨some 46,.mov (.tmp 12),none⟩,
 ⟨some 47,.call 41 [(.tmp 45),(.tmp 46)],none⟩,
 ⟨some 10,.mov (.tmp 47),none⟩])
 .skip))
 (.reg [1,2] [⟨some 48,.mov (.tmp 9),none⟩,
 ⟨some 49,.mov (.tmp 12),none⟩,
 ⟨some 50,.bsl 1 3 1 1 [(.int .i64 0)] [(0,(.tmp 49))],none⟩,
 ⟨some 51,.app 2 3 1 8 (.tmp 48) (.tmp 50),none⟩,
 ⟨some 9,.mov (.tmp 51),none⟩]))))))
 (.reg [] [⟨some 52,.arith .add .i64 (.tmp 31) (.cst (.d (.int .i64 1))),none⟩,
 ⟨some 31,.mov (.tmp 52),none⟩])))))))))))
 (.seq
 (.reg [] [⟨some 53,.mov (.tmp 9),none⟩,
 ⟨some 6,.mov (.tmp 53),none⟩,
 ⟨some 7,.mov (.cst (.d (.int .i64 0))),none⟩])
 .ret))))))⟩
set_option maxHeartbeats 4000000 in
theorem c59 (l:List Stn) (c:List Bool) (n:Int) (hc0:c.length≤1048576):CallDet Try.prog 15 [.d (.slice 4 (stns l)),.d (.slice 1 (blsD c)),.d (.int .i64 n)] [.slice 1 (ints (accP l c n)),.int .i64 (accE l c n)]:=by
 have hlen:=bls_len c
 have hlen2:=stns_len l
 refine call_of_vc (x:=ir59) (by kernel_rfl) rfl ?_
 refine Exists.intro _ (And.intro (c70 l) ?_)
 refine Exists.intro _ (And.intro (c110 c) ?_)
 refine Exists.intro _ (And.intro (c82 _ _ _) ?_)
 refine Exists.intro _ (And.intro (c111 c true hc0) ?_)
 refine Exists.intro _ (And.intro (c83 _ _) ?_)
 repeat refine And.intro rfl ?_
 refine Exists.intro _ (And.intro (c81 [chkStns l,chkCyc c,within3 n 0 256,bif !(c.contains true) then 7 else 0] (by simp)) ?_)
 repeat refine And.intro rfl ?_
 refine brk_intro ?_ ?_
 ·intro h
  have h:(accE l c n != 0)=true:=h
  exact acp (p:=[]) (by unfold accP; rw [h]; rfl) rfl
 intro h
 have h:(accE l c n != 0)=false:=h
 have h0:accE l c n=0:=by simpa using h
 obtain ⟨ho,h8⟩:=chkStns_ok (firstOf_zero h0 (chkStns l) (by simp))
 have hcl:=cyc_ok (firstOf_zero h0 (chkCyc c) (by simp))
 have hn:=within_ok (firstOf_zero h0 (within3 n 0 256) (by simp))
 have hP:accP l c n=accGo c n.toNat 0 l:=by unfold accP; rw [h]; rfl
 obtain ⟨m,rfl⟩:∃ m:Nat,n=m:=⟨n.toNat,by omega⟩
 have hP:accP l c m=accGo c m 0 l:=hP
 refine Exists.intro _ (And.intro (c108 (stns l) (by omega)) ?_)
 refine loop_st (fun a:Nat × List Int × List Stn=>⟨[(1,.d (.slice 1 (blsD c))),(9,.sl 2 (ints a.2.1).length),(10,.d (.slice 4 (stns a.2.2))),(30,.d (.int .i64 m)),(31,.d (.int .i64 a.1))],[.none,.none,.row 3 1 (ints a.2.1) false]⟩)
  (accI c l m) (fun a=>m - a.1) (0,[],l) rfl (accI_start ho) ?_
 rintro ⟨i,acc,now⟩ hi
 have ho2:∀ x∈now,x.ok:=hi.2.1
 have hnl:now.length=l.length:=hi.2.2.1
 have hal:acc.length=i:=hi.2.2.2.1
 have hin:i≤m:=hi.2.2.2.2
 have hil:=ints_len acc
 refine And.intro rfl ?_
 refine brk_lt (fun h=>?_) (fun h=>?_)
 ·have h:(i:Int) < (m:Int):=h
  have hA:-9223372036854775808≤(i:Int)+1∧(i:Int)+1≤9223372036854775807:=by omega
  have hR:0≤(i:Int)∧1≤((blsD c).length:Int):=by omega
  have hs1:((ints acc).length+1) * 8≤2 ^ 47:=by omega
  have hs2:(ints acc).length+1≤2 ^ 47:=by omega
  have hm:m - (i+1) < m - i:=by omega
  refine ar_rem hR ?_
  refine ix_at (cAt_ix i hcl.1) (Int.emod_nonneg _ (by omega)) ?_
  refine brk_intro ?_ ?_
  ·intro e
   have e:cAt c i=true:=e
   have ew:winF now=accW c i now:=by unfold accW; rw [e]; rfl
   have hst:=accI_step hi (by omega) ew
   refine Exists.intro _ (And.intro (c107 now (by omega) ho2) ?_)
   refine And.intro rfl ?_
   refine brk_le (fun hw=>?_) (fun hw=>?_)
   ·have hw:0≤winF now:=hw
    have en:accN (winF now) now=aftF now (winF now):=by unfold accN; rw [decide_eq_true hw]; rfl
    rw [en] at hst
    refine Exists.intro _ (And.intro (c109 now (winF now) (by omega) ho2) ?_)
    repeat refine And.intro rfl ?_
    refine And.intro ⟨rfl,rfl,rfl,hs1,hs2⟩ ?_
    refine ar_add hA ?_
    refine ⟨(i+1,acc++[winF now],aftF now (winF now)),⟨hst,hm⟩,?_⟩
    rw [ints_snoc]; rfl
   ·have hw:¬ 0≤winF now:=hw
    have en:accN (winF now) now=now:=by unfold accN; rw [decide_eq_false hw]; rfl
    rw [en] at hst
    repeat refine And.intro rfl ?_
    refine And.intro ⟨rfl,rfl,rfl,hs1,hs2⟩ ?_
    refine ar_add hA ?_
    refine ⟨(i+1,acc++[winF now],now),⟨hst,hm⟩,?_⟩
    rw [ints_snoc]; rfl
  ·intro e
   have e:cAt c i=false:=e
   have ew:(-1:Int)=accW c i now:=by unfold accW; rw [e]; rfl
   have hst:=accI_step hi (by omega) ew
   have en:accN (-1) now=now:=rfl
   rw [en] at hst
   repeat refine And.intro rfl ?_
   refine And.intro ⟨rfl,rfl,rfl,hs1,hs2⟩ ?_
   refine ar_add hA ?_
   refine ⟨(i+1,acc++[-1],now),⟨hst,hm⟩,?_⟩
   rw [ints_snoc]; rfl
 ·have h:¬ (i:Int) < (m:Int):=h
  repeat refine And.intro rfl ?_
  exact acp (p:=acc) (hP.trans (accI_end hi (by omega))) h0
end Vc
set_option maxRecDepth 10000
namespace Vc
open Go Go.Proofs
def sentF (s:Sn):List Fr:=(s.q.drop s.a.toNat).take s.w.toNat
def sentI (s:Sn):List Int:=(List.range (sentF s).length).map fun (j:Nat)=>(s.a+(j:Int)) % 16
end Vc
set_option maxRecDepth 10000
namespace Vc
open Go Go.Proofs
end Vc
set_option maxRecDepth 10000
namespace Vc
open Go Go.Proofs
def hearE (r:Rc) (f:Fr) (n:Int):Int:=firstOf [chkRc r,f.check,within3 n 0 15,bif (n==r.t.tmod 16)&&(r.t==64) then 5 else 0]
def hearP (r:Rc) (f:Fr) (n:Int):Rc × Int × Int:=match hearE r f n != 0 with
 | true=>(⟨0,[]⟩,0,hearE r f n)
 | false=>match n==r.t.tmod 16 with
  | true=>(⟨(r.l.length:Int)+1,r.l++[f]⟩,((r.l.length:Int)+1) % 16,0)
  | false=>(r,r.t % 16,0)
theorem hp {r:Rc} {f:Fr} {n:Int} {p:Rc × Int × Int} (h:hearP r f n=p):resV [p.1.d,.int .i64 p.2.1,.int .i64 p.2.2]=resV [(hearP r f n).1.d,.int .i64 (hearP r f n).2.1,.int .i64 (hearP r f n).2.2]:=by rw [h]
end Vc
set_option maxRecDepth 10000
namespace Vc
open Go Go.Proofs
def Sn.cap (s:Sn):Data:=.agg [.slice 4 (frs s.q),.int .i64 s.a,.int .i64 s.w]
end Vc
set_option maxRecDepth 10000
namespace Vc
open Go Go.Proofs
end Vc
set_option maxRecDepth 10000
namespace Vc
open Go Go.Proofs
end Vc
set_option maxRecDepth 10000
namespace Vc
open Go Go.Proofs
end Vc
set_option maxRecDepth 10000
namespace Vc
open Go Go.Proofs
def sentP (s:Sn):List Fr × List Int:=match chkSn s != 0 with | true=>([],[]) | false=>(sentF s,sentI s)
theorem sp {s:Sn} {p:List Fr × List Int} {e:Int} (h:sentP s=p) (he:chkSn s=e):resV [.slice 4 (frs p.1),.slice 1 (ints p.2),.int .i64 e]=resV [.slice 4 (frs (sentP s).1),.slice 1 (ints (sentP s).2),.int .i64 (chkSn s)]:=by rw [h,he]
end Vc
set_option maxRecDepth 10000
namespace Vc
open Go Go.Proofs
end Vc
set_option maxRecDepth 10000
namespace Vc
open Go Go.Proofs
end Vc
set_option maxRecDepth 10000
namespace Vc
open Go Go.Proofs
end Vc
