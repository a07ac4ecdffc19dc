import Derived.Test.YtcplcokecclehaaG12
import Derived.Test.YtcplcokecclehaaG13
set_option linter.unusedSectionVars false
set_option linter.unusedVariables false
set_option linter.unusedSimpArgs false
set_option maxRecDepth 10000
set_option maxHeartbeats 4000000
namespace Vc
open Go Go.Proofs
def jr28:AFun:=⟨15,0,[.tmp 2],
 (.seq
 (.reg [] [⟨some 2,.mov (.cst (.d (.int .i64 0))),none⟩])
 (.seq
  (.seq
  (.reg [] [⟨some 5,.mov (.tmp 0),none⟩,
   ⟨some 6,.len (.tmp 5),none⟩,
   ⟨some 7,.mov (.cst (.d (.int .i64 0))),none⟩])
  (.post [] []
   (.block 0
   (.keep [5,6,7] []
    (.loop
    (.post [5,6,7] []
     (.seq
     (.reg [] [⟨some 8,.cmp .lss (.tmp 7) (.tmp 6),none⟩])
     (.seq
      (.cond (.tmp 8)
      .skip
      (.exit 0))
      (.seq
      (.block 1
       (.seq
       (.reg [] [⟨some 9,.ixa 1 (.tmp 5) (.tmp 7),none⟩,
        ⟨some 10,.ld false 1 (.tmp 9),none⟩,
        ⟨some 4,.mov (.tmp 10),none⟩])
       (.seq
        (.reg [] [⟨some 11,.mov (.tmp 4),none⟩,
         ⟨some 12,.cmp .neq (.tmp 11) (.cst (.d (.int .i64 0))),none⟩])
        (.cond (.tmp 12)
        (.seq
         (.reg [] [⟨some 13,.mov (.tmp 4),none⟩,
          ⟨some 2,.mov (.tmp 13),none⟩])
         .ret)
        .skip))))
      (.reg [] [⟨some 14,.arith .add .i64 (.tmp 7) (.cst (.d (.int .i64 1))),none⟩,
       ⟨some 7,.mov (.tmp 14),none⟩]))))))))))
  (.seq
  (.reg [] [⟨some 2,.mov (.cst (.d (.int .i64 0))),none⟩])
  .ret)))⟩
def jr29:AFun:=⟨7,0,[.tmp 4],
 (.seq
 (.reg [] [⟨some 4,.mov (.cst (.d (.int .i64 0))),none⟩])
 (.seq
  (.seq
  (.reg [] [⟨some 5,.mov (.tmp 0),none⟩])
  (.cond (.tmp 5)
   (.seq
   (.reg [] [⟨some 6,.mov (.tmp 1),none⟩,
    ⟨some 4,.mov (.tmp 6),none⟩])
   .ret)
   .skip))
  (.seq
  (.reg [] [⟨some 4,.mov (.cst (.d (.int .i64 0))),none⟩])
  .ret)))⟩
def jr47:AFun:=⟨16,0,[.tmp 6],
 (.seq
 (.reg [] [⟨some 6,.mov (.cst (.d (.int .i64 0))),none⟩])
 (.seq
  (.reg [] [⟨some 7,.mov (.tmp 0),none⟩,
   ⟨some 8,.mov (.tmp 1),none⟩,
   ⟨some 9,.cmp .lss (.tmp 7) (.tmp 8),none⟩,
   ⟨some 10,.mov (.tmp 9),none⟩,
   ⟨some 11,.mov (.tmp 0),some (10,false)⟩,
   ⟨some 12,.mov (.tmp 2),some (10,false)⟩,
   ⟨some 13,.cmp .gtr (.tmp 11) (.tmp 12),some (10,false)⟩,
   ⟨some 14,.pick (.tmp 10) (.cst (.d (.bool true))) (.tmp 13),none⟩,
   ⟨some 15,.call 29 [(.tmp 14),(.cst (.d (.int .i64 3)))],none⟩,
   ⟨some 6,.mov (.tmp 15),none⟩])
  .ret))⟩
def jr53:AFun:=⟨9,0,[.tmp 4],
 (.seq
 (.reg [] [⟨some 4,.mov (.cst (.d (.int .i64 0))),none⟩])
 (.seq
  (.reg [] [⟨some 5,.mov (.tmp 0),none⟩,
   ⟨some 6,.ld false 1 (.tmp 1),none⟩,
   ⟨some 7,.ld false 1 (.tmp 2),none⟩,
   ⟨some 8,.call 47 [(.tmp 5),(.tmp 6),(.tmp 7)],none⟩,
   ⟨some 4,.mov (.tmp 8),none⟩])
  .ret))⟩
def jr52:AFun:=⟨22,2,[.tmp 4],
 (.seq
 (.reg [] [⟨some 4,.mov (.cst (.nils 1)),none⟩])
 (.seq
  (.reg [] [⟨some 5,.mov (.cst (.nils 1)),none⟩])
  (.seq
  (.seq
   (.reg [] [⟨some 8,.mov (.tmp 0),none⟩,
    ⟨some 9,.len (.tmp 8),none⟩,
    ⟨some 10,.mov (.cst (.d (.int .i64 0))),none⟩])
   (.post [5] [0,1]
   (.block 0
    (.asrow 1 30 1 5
    (.keep [1,5,8,9,10] []
     (.loop
     (.post [1,5,8,9,10] [0,1]
      (.seq
      (.reg [] [⟨some 11,.cmp .lss (.tmp 10) (.tmp 9),none⟩])
      (.seq
       (.cond (.tmp 11)
       .skip
       (.exit 0))
       (.seq
       (.block 1
        (.seq
        (.reg [] [⟨some 12,.ixa 1 (.tmp 8) (.tmp 10),none⟩,
         ⟨some 13,.ld false 1 (.tmp 12),none⟩,
         ⟨some 7,.mov (.tmp 13),none⟩])
        (.reg [0,1] [⟨some 14,.mov (.tmp 5),none⟩,
         ⟨some 15,.mov (.tmp 1),none⟩,
         ⟨some 16,.mov (.tmp 7),none⟩,
         ⟨some 17,.callv (.tmp 15) [(.tmp 16)],none⟩,
         ⟨some 18,.bsl 0 30 1 1 [(.int .i64 0)] [(0,(.tmp 17))],none⟩,
         ⟨some 19,.app 1 30 1 8 (.tmp 14) (.tmp 18),none⟩,
         ⟨some 5,.mov (.tmp 19),none⟩])))
       (.reg [] [⟨some 20,.arith .add .i64 (.tmp 10) (.cst (.d (.int .i64 1))),none⟩,
        ⟨some 10,.mov (.tmp 20),none⟩])))))))))))
  (.seq
   (.reg [] [⟨some 21,.mov (.tmp 5),none⟩,
    ⟨some 4,.mov (.tmp 21),none⟩])
   .ret))))⟩
def jr30:AFun:=⟨11,2,[.tmp 6],
 (.seq
 (.reg [0,1] [⟨some 4,.cbx 0 1 (.tmp 1),none⟩,
  ⟨some 5,.cbx 1 1 (.tmp 2),none⟩,
  ⟨some 6,.mov (.cst (.d (.int .i64 0))),none⟩])
 (.seq
  (.reg [] [⟨some 7,.mov (.tmp 0),none⟩,
   ⟨some 8,.mkf (.func 53) [] [(.tmp 4),(.tmp 5)],none⟩,
   ⟨some 9,.call 52 [(.tmp 7),(.tmp 8)],none⟩,
   ⟨some 10,.call 28 [(.tmp 9)],none⟩,
   ⟨some 6,.mov (.tmp 10),none⟩])
  .ret))⟩
def jr24:AFun:=⟨13,0,[.tmp 4],
 (.seq
 (.reg [] [⟨some 4,.mov (.cst (.d (.int .i64 0))),none⟩])
 (.seq
  (.reg [] [⟨some 5,.mov (.tmp 1),none⟩,
   ⟨some 6,.cmp .lss (.tmp 5) (.cst (.d (.int .i64 0))),none⟩,
   ⟨some 7,.mov (.tmp 6),none⟩,
   ⟨some 8,.mov (.tmp 1),some (7,false)⟩,
   ⟨some 9,.mov (.tmp 0),some (7,false)⟩,
   ⟨some 10,.cmp .geq (.tmp 8) (.tmp 9),some (7,false)⟩,
   ⟨some 11,.pick (.tmp 7) (.cst (.d (.bool true))) (.tmp 10),none⟩,
   ⟨some 12,.call 22 [(.tmp 11),(.cst (.d (.int .i64 10)))],none⟩,
   ⟨some 4,.mov (.tmp 12),none⟩])
  .ret))⟩
theorem t28 (es:List Int) (hl:es.length < 9223372036854775807):CallDet Try.prog 28 [.d (.slice 1 (ints es))] [.int .i64 (firstOf es)]:=by
 refine call_of_vc (x:=jr28) (by kernel_rfl) rfl ?_
 refine loop_st (fun k:Nat=>⟨[(5,.d (.slice 1 (ints es))),(6,.d (.int .i64 (ints es).length)),(7,.d (.int .i64 k))],[]⟩)
  (fun k=>firstOf es=firstOf (es.drop k)) (fun k=>es.length - k) 0 rfl rfl ?_
 intro k hk
 refine And.intro rfl ?_
 refine brk_intro ?_ ?_
 ·intro h
  have h:(k:Int) < (ints es).length:=of_decide_eq_true h
  have h1:k < es.length:=by simp [ints] at h; exact h
  obtain ⟨e,he⟩:∃ e,es[k]?=some e:=⟨_,List.getElem?_eq_getElem h1⟩
  refine ix_at (ints_get he) (by omega) ?_
  refine And.intro rfl ?_
  refine brk_intro ?_ ?_
  ·intro h2
   have h2:(e != 0)=true:=h2
   rw [hk,drop_get he,firstOf,h2]
   exact rfl
  ·intro h2
   have h2:(e != 0)=false:=h2
   refine ar_add (by omega) ?_
   refine ⟨k+1,⟨?_,by omega⟩,rfl⟩
   rw [hk,drop_get he,firstOf,h2]
   rfl
 ·intro h
  have h:¬ ((k:Int) < (ints es).length):=of_decide_eq_false h
  have h1:es.length≤k:=by simp [ints] at h; exact h
  rw [hk,List.drop_eq_nil_of_le h1]
  exact rfl
theorem t29 (c:Bool) (e:Int):CallDet Try.prog 29 [.d (.bool c),.d (.int .i64 e)] [.int .i64 (bif c then e else 0)]:=by
 refine call_of_vc (x:=jr29) (by kernel_rfl) rfl ?_
 refine brk_intro ?_ ?_
 ·intro h; subst h
  exact rfl
 ·intro h; subst h
  exact rfl
theorem t47 (x lo hi:Int):CallDet Try.prog 47 [.d (.int .i64 x),.d (.int .i64 lo),.d (.int .i64 hi)] [.int .i64 (within3 x lo hi)]:=by
 refine call_of_vc (x:=jr47) (by kernel_rfl) rfl ?_
 by_cases h:x < lo
 ·have c29_:=t29 true 3
  have e:within3 x lo hi=3:=by unfold within3; rw [decide_eq_true h]; rfl
  refine And.intro rfl ?_
  refine brk_lt (fun t1=>?_) (fun t1=>?_)
  refine And.intro rfl ?_
  refine Exists.intro _ (And.intro c29_ ?_)
  rotate_left
  (exfalso; omega)
  all_goals exact congrArg (fun v:Int=>resV [.int .i64 v]) e.symm
 ·have c29_:=t29 (decide (hi < x)) 3
  have e:within3 x lo hi=bif decide (hi < x) then 3 else 0:=by unfold within3; rw [decide_eq_false h]; rfl
  refine And.intro rfl ?_
  refine brk_lt (fun t1=>?_) (fun t1=>?_)
  (exfalso; omega)
  refine And.intro rfl ?_
  refine Exists.intro _ (And.intro c29_ ?_)
  rotate_left
  all_goals exact congrArg (fun v:Int=>resV [.int .i64 v]) e.symm
theorem w3 (x lo hi:Int):CallDet Try.prog 47 [.d (.int .i64 x),.d (.int .i64 lo),.d (.int .i64 hi)] [.int .i64 (within3 x lo hi)]:=t47 x lo hi
theorem f2 (a b:Int):CallDet Try.prog 28 [.d (.slice 1 [.int .i64 a,.int .i64 b])] [.int .i64 (firstOf [a,b])]:=t28 [a,b] (by simp)
theorem f3 (a b c:Int):CallDet Try.prog 28 [.d (.slice 1 [.int .i64 a,.int .i64 b,.int .i64 c])] [.int .i64 (firstOf [a,b,c])]:=t28 [a,b,c] (by simp)
theorem f5 (a b c d e:Int):CallDet Try.prog 28 [.d (.slice 1 [.int .i64 a,.int .i64 b,.int .i64 c,.int .i64 d,.int .i64 e])] [.int .i64 (firstOf [a,b,c,d,e])]:=t28 [a,b,c,d,e] (by simp)
theorem g2 (a b:Int):CallDet Try.prog 21 [.d (.slice 1 [.int .i64 a,.int .i64 b])] [.int .i64 (firstOf [a,b])]:=c89 [a,b] (by simp)
def rngs (l:List Int) (lo hi:Int):Int:=firstOf (l.map fun x=>within3 x lo hi)
theorem t53 (x lo hi:Int):CallDet Try.prog 53 [.d (.int .i64 x),.cp [.int .i64 lo] 0,.cp [.int .i64 hi] 0] [.int .i64 (within3 x lo hi)]:=by
 refine call_of_vc (x:=jr53) (by kernel_rfl) rfl ?_
 have c47_:=w3 x lo hi
 refine Exists.intro _ (And.intro c47_ ?_)
 exact rfl
theorem t52 (l : List Int) (lo hi : Int) (hl : l.length ≤ 1048576) :
  CallDet Try.prog 52 [.d (.slice 1 (ints l)),.d (.fn (.func 53) [.agg [.int .i64 lo],.agg [.int .i64 hi]])] [.slice 1 (ints (l.map fun x=>within3 x lo hi))]:=by
 refine call_of_vc (x:=jr52) (by kernel_rfl) rfl ?_
 have hlen:(ints l).length=l.length:=by simp [ints]
 refine loop_st (fun a:Nat × List Data=>⟨[(1,.d (.fn (.func 53) [.agg [.int .i64 lo],.agg [.int .i64 hi]])),(5,.sl 1 a.2.length),(8,.d (.slice 1 (ints l))),(9,.d (.int .i64 (ints l).length)),(10,.d (.int .i64 a.1))],[.none,.row 30 1 a.2 false]⟩)
  (fun a=>a.2=(l.take a.1).map fun x=>.int .i64 (within3 x lo hi)) (fun a=>l.length - a.1) (0,[]) rfl rfl ?_
 rintro ⟨k,acc⟩ hk
 refine And.intro rfl ?_
 refine brk_intro ?_ ?_
 ·intro h
  have h:(k:Int) < (ints l).length:=of_decide_eq_true h
  obtain ⟨x,hx⟩:∃ x,l[k]?=some x:=⟨_,List.getElem?_eq_getElem (by omega)⟩
  have hd:(ints l)[(k:Int).toNat]?=some (.int .i64 x):=by simp [ints,hx]
  have hacc:acc.length=k:=by have:=congrArg List.length hk; simp at this; omega
  refine ix_at hd (by omega) ?_
  refine Exists.intro _ (And.intro (t53 x lo hi) ?_)
  refine And.intro rfl ?_
  refine And.intro rfl ?_
  refine And.intro rfl ?_
  refine And.intro ⟨rfl,rfl,rfl,?_,?_⟩ ?_
  ·show (acc.length+1) * 8≤2 ^ 47
   omega
  ·show acc.length+1≤2 ^ 47
   omega
  refine ar_add (by omega) ?_
  refine ⟨(k+1,acc++[.int .i64 (within3 x lo hi)]),⟨?_,by show l.length - (k+1) < l.length - k; omega⟩,rfl⟩
  show acc++[.int .i64 (within3 x lo hi)]=(l.take (k+1)).map fun x=>Data.int .i64 (within3 x lo hi)
  rw [take_map_succ _ hx]
  exact congrArg (·++[Data.int .i64 (within3 x lo hi)]) hk
 ·intro h
  have h:¬ (k:Int) < (ints l).length:=of_decide_eq_false h
  refine And.intro rfl ?_
  have e:ints (l.map fun x=>within3 x lo hi)=acc:=by
   have hk:acc=(l.take k).map fun x=>Data.int .i64 (within3 x lo hi):=hk
   rw [hk,List.take_of_length_le (by omega)]
   simp [ints]
  rw [e]
  exact rfl
theorem t30 (l:List Int) (lo hi:Int) (hl:l.length≤1048576):CallDet Try.prog 30 [.d (.slice 1 (ints l)),.d (.int .i64 lo),.d (.int .i64 hi)] [.int .i64 (rngs l lo hi)]:=by
 refine call_of_vc (x:=jr30) (by kernel_rfl) rfl ?_
 have c52_:=t52 l lo hi hl
 have c28_:=t28 (l.map fun x=>within3 x lo hi) (by rw [List.length_map]; omega)
 refine Exists.intro _ (And.intro c52_ ?_)
 refine Exists.intro _ (And.intro c28_ ?_)
 exact rfl
theorem k24 (n x:Int):CallDet Try.prog 24 [.d (.int .i64 n),.d (.int .i64 x)] [.int .i64 (bif decide (x < 0)||decide (n≤x) then 10 else 0)]:=by
 refine call_of_vc (x:=jr24) (by kernel_rfl) rfl ?_
 by_cases h:x < 0
 ·have c22_:=c66 true 10
  have e:(bif decide (x < 0)||decide (n≤x) then (10:Int) else 0)=10:=by rw [decide_eq_true h]; rfl
  refine And.intro rfl ?_
  refine brk_lt (fun t1=>?_) (fun t1=>?_)
  refine And.intro rfl ?_
  refine Exists.intro _ (And.intro c22_ ?_)
  rotate_left
  (exfalso; omega)
  all_goals exact congrArg (fun v:Int=>resV [.int .i64 v]) e.symm
 ·have c22_:=c66 (decide (n≤x)) 10
  have e:(bif decide (x < 0)||decide (n≤x) then (10:Int) else 0)=bif decide (n≤x) then 10 else 0:=by rw [decide_eq_false h]; rfl
  refine And.intro rfl ?_
  refine brk_lt (fun t1=>?_) (fun t1=>?_)
  (exfalso; omega)
  refine And.intro rfl ?_
  refine Exists.intro _ (And.intro c22_ ?_)
  rotate_left
  all_goals exact congrArg (fun v:Int=>resV [.int .i64 v]) e.symm
end Vc
set_option maxRecDepth 10000
set_option maxHeartbeats 4000000
namespace Vc
open Go Go.Proofs
structure Tn where
 sg:List Int
 nz:List (List Int)
 mg:Int
 mx:Int
 nt:List Int
def rws (l:List (List Int)):List Data:=l.map fun r=>.slice 1 (ints r)
theorem rws_len (l:List (List Int)):(rws l).length=l.length:=List.length_map _
theorem rws_at {l:List (List Int)} {k:Nat} {r:List Int} (h:l[k]?=some r):(rws l)[((k:Int)).toNat]?=some (.slice 1 (ints r)):=by
 show (l.map _)[k]?=_
 rw [List.getElem?_map,h]; rfl
def Tn.d (t:Tn):Data:=.agg [.slice 1 (ints t.sg),.slice 1 (rws t.nz),.int .i64 t.mg,.int .i64 t.mx,.slice 1 (ints t.nt)]
theorem within_in {n a b:Int} (h:a≤n∧n≤b):within3 n a b=0:=by
 unfold within3; rw [decide_eq_false (by omega),decide_eq_false (by omega)]; rfl
theorem firstOf_none:∀ {es:List Int},(∀ e∈es,e=0)→firstOf es=0
 | [],_=>rfl
 | e::r,h=>by
  have h1:=h e List.mem_cons_self
  unfold firstOf
  rw [h1]
  exact firstOf_none fun x hx=>h x (List.mem_cons_of_mem _ hx)
theorem rngs_of {l:List Int} {lo hi:Int} (h:∀ x∈l,lo≤x∧x≤hi):rngs l lo hi=0:=firstOf_none fun e he=>by
 obtain ⟨x,hx,rfl⟩:=List.mem_map.1 he
 exact within_in (h x hx)
structure Tn.ok (t:Tn):Prop where
 n1:1≤t.sg.length
 n8:t.sg.length≤8
 sgb:∀ x∈t.sg,0≤x∧x≤1000000000
 p1:1≤t.nz.length
 p8:t.nz.length≤8
 rows:∀ r∈t.nz,r.length=t.sg.length∧∀ x∈r,1≤x∧x≤1000000
 mgb:1≤t.mg∧t.mg≤100
 mxb:1≤t.mx∧t.mx≤1000000
 ntb:∀ (i:Nat) x,t.nt[i]?=some x→(0≤x∧x < (t.sg.length:Int))∧∀ y,0 < i→t.nt[i - 1]?=some y→y < x
 nts:t.nt.length≤9
def at1 (t:Tn) (c:Nat):Int:=t.sg[c]?.getD 0
def at2 (t:Tn) (p c:Nat):Int:=(t.nz[p]?.getD [])[c]?.getD 0
def pw (mg x s:Int) (b:Nat):Int × Bool:=bif mg * (2 ^ b - 1) * x==0 then (0,true) else bif s==0 then (0,false) else ((mg * (2 ^ b - 1) * x+s - 1) / s,true)
def pwA (t:Tn) (p c b:Nat):Int × Bool:=pw t.mg (at2 t p c) (at1 t c) b
theorem Tn.ok.cell {t : Tn} (h : t.ok) {p c : Nat} (hp : p < t.nz.length) (hc : c < t.sg.length) :
  ∃ r,t.nz[p]?=some r∧r.length=t.sg.length∧r[c]?=some (at2 t p c)∧t.sg[c]?=some (at1 t c)∧(1≤at2 t p c∧at2 t p c≤1000000)∧(0≤at1 t c∧at1 t c≤1000000000):=by
 have hr:=List.getElem?_eq_getElem hp
 obtain ⟨hl,hx⟩:=h.rows _ (List.getElem_mem hp)
 have hcr:c < t.nz[p].length:=by omega
 have e2:at2 t p c=t.nz[p][c]:=by unfold at2; rw [hr]; show (t.nz[p])[c]?.getD 0=_; rw [List.getElem?_eq_getElem hcr]; rfl
 have e1:at1 t c=t.sg[c]:=by unfold at1; rw [List.getElem?_eq_getElem hc]; rfl
 exact ⟨_,hr,hl,by rw [e2]; exact List.getElem?_eq_getElem hcr,by rw [e1]; exact List.getElem?_eq_getElem hc,by rw [e2]; exact hx _ (List.getElem_mem hcr),by rw [e1]; exact h.sgb _ (List.getElem_mem hc)⟩
theorem pw_bd {mg x s : Int} {b : Nat} (hm : 1 ≤ mg ∧ mg ≤ 100) (hx : 1 ≤ x ∧ x ≤ 1000000) (hs : 0 ≤ s ∧ s ≤ 1000000000) (hb : b ≤ 6) :
  (0≤mg * (2 ^ b - 1)∧mg * (2 ^ b - 1)≤6300)∧(0≤mg * (2 ^ b - 1) * x∧mg * (2 ^ b - 1) * x≤6300000000):=by
 have h1:0≤mg * (2 ^ b - 1)∧mg * (2 ^ b - 1)≤6300:=by
  have:b=0∨b=1∨b=2∨b=3∨b=4∨b=5∨b=6:=by omega
  rcases this with rfl | rfl | rfl | rfl | rfl | rfl | rfl <;> omega
 refine ⟨h1,Int.mul_nonneg h1.1 (by omega),?_⟩
 have h2:=Int.mul_le_mul h1.2 hx.2 (by omega) (by omega)
 omega
theorem pw_le {mg x s:Int} {b:Nat} (hm:1≤mg∧mg≤100) (hx:1≤x∧x≤1000000) (hs:0≤s∧s≤1000000000) (hb:b≤6):0≤(pw mg x s b).1∧(pw mg x s b).1≤7300000000:=by
 have h:=pw_bd hm hx hs hb
 unfold pw
 cases mg * (2 ^ b - 1) * x==0
 ·cases hz:(s==0)
  ·have hz:¬ s=0:=by simpa using hz
   show 0≤(mg * (2 ^ b - 1) * x+s - 1) / s∧(mg * (2 ^ b - 1) * x+s - 1) / s≤_
   have h0:0≤mg * (2 ^ b - 1) * x+s - 1:=by omega
   have h3:=Int.ediv_le_self s h0
   exact ⟨Int.ediv_nonneg h0 hs.1,by omega⟩
  ·show (0:Int)≤0∧(0:Int)≤_; omega
 ·show (0:Int)≤0∧(0:Int)≤_; omega
theorem two_6 {b:Nat} (hb:b≤6):1≤(2:Int) ^ b∧(2:Int) ^ b≤64:=by
 have:b=0∨b=1∨b=2∨b=3∨b=4∨b=5∨b=6:=by omega
 rcases this with rfl | rfl | rfl | rfl | rfl | rfl | rfl <;> omega
theorem shl_6 {b:Nat} (hb:b≤6):IntKind.i64=IntKind.i64∧shfF .shl .i64 1 (b:Int)=some ((2:Int) ^ b):=by
 have:b=0∨b=1∨b=2∨b=3∨b=4∨b=5∨b=6:=by omega
 rcases this with rfl | rfl | rfl | rfl | rfl | rfl | rfl <;> exact ⟨rfl,by kernel_rfl⟩
def jr32:AFun:=⟨42,1,[.tmp 8,.tmp 9],
 (.seq
 (.reg [0] [⟨some 4,.cbx 0 5 (.tmp 0),none⟩,
  ⟨some 8,.mov (.cst (.d (.int .i64 0))),none⟩,
  ⟨some 9,.mov (.cst (.d (.bool false))),none⟩])
 (.seq
  (.regd [] [⟨some 12,.fad 2 (.tmp 4),none⟩,
   ⟨some 13,.ld false 1 (.tmp 12),none⟩,
   ⟨some 14,.mov (.tmp 3),none⟩,
   ⟨some 15,.shf .shl .i64 (.cst (.d (.int .i64 1))) (.tmp 14),none⟩,
   ⟨some 16,.arith .sub .i64 (.tmp 15) (.cst (.d (.int .i64 1))),none⟩,
   ⟨some 17,.arith .mul .i64 (.tmp 13) (.tmp 16),none⟩,
   ⟨some 18,.fad 1 (.tmp 4),none⟩,
   ⟨some 19,.ld false 1 (.tmp 18),none⟩,
   ⟨some 20,.mov (.tmp 1),none⟩,
   ⟨some 21,.ixa 1 (.tmp 19) (.tmp 20),none⟩,
   ⟨some 22,.ld false 1 (.tmp 21),none⟩,
   ⟨some 23,.mov (.tmp 2),none⟩,
   ⟨some 24,.ixa 1 (.tmp 22) (.tmp 23),none⟩,
   ⟨some 25,.ld false 1 (.tmp 24),none⟩,
   ⟨some 26,.arith .mul .i64 (.tmp 17) (.tmp 25),none⟩,
   ⟨some 10,.mov (.tmp 26),none⟩] [(0,2),(1,2),(0,3),(1,3),(0,4),(1,4),(0,6),(1,6),(2,6),(3,6),(4,6),(5,6),(0,7),(1,7),(2,7),(3,7),(4,7),(5,7),(0,8),(1,8),(2,8),(3,8),(4,8),(5,8),(6,8),(7,8),(0,9),(1,9),(2,9),(3,9),(4,9),(5,9),(0,10),(1,10),(2,10),(3,10),(4,10),(5,10),(0,11),(1,11),(2,11),(3,11),(4,11),(5,11),(6,11),(7,11),(8,11),(9,11),(10,11),(0,12),(1,12),(2,12),(3,12),(4,12),(5,12),(0,13),(1,13),(2,13),(3,13),(4,13),(5,13)])
  (.seq
  (.seq
   (.reg [] [⟨some 27,.mov (.tmp 10),none⟩,
    ⟨some 28,.cmp .eql (.tmp 27) (.cst (.d (.int .i64 0))),none⟩])
   (.cond (.tmp 28)
   (.seq
    (.reg [] [⟨some 8,.mov (.cst (.d (.int .i64 0))),none⟩,
     ⟨some 9,.mov (.cst (.d (.bool true))),none⟩])
    .ret)
   .skip))
  (.seq
   (.reg [] [⟨some 29,.fad 0 (.tmp 4),none⟩,
    ⟨some 30,.ld false 1 (.tmp 29),none⟩,
    ⟨some 31,.mov (.tmp 2),none⟩,
    ⟨some 32,.ixa 1 (.tmp 30) (.tmp 31),none⟩,
    ⟨some 33,.ld false 1 (.tmp 32),none⟩,
    ⟨some 11,.mov (.tmp 33),none⟩])
   (.seq
   (.seq
    (.reg [] [⟨some 34,.mov (.tmp 11),none⟩,
     ⟨some 35,.cmp .eql (.tmp 34) (.cst (.d (.int .i64 0))),none⟩])
    (.cond (.tmp 35)
    (.seq
     (.reg [] [⟨some 8,.mov (.cst (.d (.int .i64 0))),none⟩,
      ⟨some 9,.mov (.cst (.d (.bool false))),none⟩])
     .ret)
    .skip))
   (.seq
    (.reg [] [⟨some 36,.mov (.tmp 10),none⟩,
     ⟨some 37,.mov (.tmp 11),none⟩,
     ⟨some 38,.arith .add .i64 (.tmp 36) (.tmp 37),none⟩,
     ⟨some 39,.arith .sub .i64 (.tmp 38) (.cst (.d (.int .i64 1))),none⟩,
     ⟨some 40,.mov (.tmp 11),none⟩,
     ⟨some 41,.arith .quo .i64 (.tmp 39) (.tmp 40),none⟩,
     ⟨some 8,.mov (.tmp 41),none⟩,
     ⟨some 9,.mov (.cst (.d (.bool true))),none⟩])
    .ret))))))⟩
theorem k32 {t : Tn} (h : t.ok) {p c b : Nat} (hp : p < t.nz.length) (hc : c < t.sg.length) (hb : b ≤ 6) :
  CallDet Try.prog 32 [.d t.d,.d (.int .i64 p),.d (.int .i64 c),.d (.int .i64 b)] [.int .i64 (pwA t p c b).1,.bool (pwA t p c b).2]:=by
 obtain ⟨r,hr,hrl,hx,hs,bx,bs⟩:=h.cell hp hc
 have bd:=pw_bd h.mgb bx bs hb
 have bm:=h.mgb
 unfold pwA
 generalize at2 t p c=x at *
 generalize at1 t c=s at *
 have hr1:=rws_at hr
 have hx1:(ints r)[((c:Int)).toNat]?=some (.int .i64 x):=ints_get hx
 have hs1:(ints t.sg)[((c:Int)).toNat]?=some (.int .i64 s):=ints_get hs
 have hn8:=h.n8
 have hp8:=h.p8
 have hl1:(ints r).length=r.length:=by simp [ints]
 have hl2:(ints t.sg).length=t.sg.length:=by simp [ints]
 have hl3:=rws_len t.nz
 refine call_of_vc (x:=jr32) (by kernel_rfl) rfl ?_
 have fin:∀ v o,pw t.mg x s b=(v,o)→resV [.int .i64 v,.bool o]=resV [.int .i64 (pw t.mg x s b).1,.bool (pw t.mg x s b).2]:=fun v o e=>by rw [e]
 have e:(pw t.mg x s b)=bif t.mg * (2 ^ b - 1) * x==0 then (0,true) else bif s==0 then (0,false) else ((t.mg * (2 ^ b - 1) * x+s - 1) / s,true):=rfl
 have hsh:=shl_6 hb
 have h2b:=two_6 hb
 by_cases hz:t.mg * (2 ^ b - 1) * x=0
 ·have e1:pw t.mg x s b=(0,true):=by rw [e,show (t.mg * (2 ^ b - 1) * x==0)=true by rw [hz]; rfl]; rfl
  refine Exists.intro _ (And.intro hsh ?_)
  refine ar_sub ?_ ?_
  refine And.intro ?_ ?_
  (show (-9223372036854775808:Int)≤(2:Int) ^ b - (1:Int); omega)
  (show (2:Int) ^ b - (1:Int)≤(9223372036854775807:Int); omega)
  refine ar_mul ?_ ?_
  refine And.intro ?_ ?_
  (show (-9223372036854775808:Int)≤Tn.mg t * ((2:Int) ^ b - (1:Int)); omega)
  (show Tn.mg t * ((2:Int) ^ b - (1:Int))≤(9223372036854775807:Int); omega)
  refine ix_at hr1 ?_ ?_
  (show (0:Int)≤(↑p:Int); omega)
  refine ix_at hx1 ?_ ?_
  (show (0:Int)≤(↑c:Int); omega)
  refine ar_mul ?_ ?_
  refine And.intro ?_ ?_
  (show (-9223372036854775808:Int)≤Tn.mg t * ((2:Int) ^ b - (1:Int)) * x; omega)
  (show Tn.mg t * ((2:Int) ^ b - (1:Int)) * x≤(9223372036854775807:Int); omega)
  refine And.intro rfl ?_
  refine brk_eq (fun t1=>?_) (fun t1=>?_)
  rotate_left
  (exfalso; omega)
  all_goals exact fin _ _ e1
 ·have hzf:(t.mg * (2 ^ b - 1) * x==0)=false:=by rw [beq_eq_false_iff_ne]; exact hz
  by_cases h0:s=0
  ·have e1:pw t.mg x s b=(0,false):=by rw [e,hzf,h0]; rfl
   refine Exists.intro _ (And.intro hsh ?_)
   refine ar_sub ?_ ?_
   refine And.intro ?_ ?_
   (show (-9223372036854775808:Int)≤(2:Int) ^ b - (1:Int); omega)
   (show (2:Int) ^ b - (1:Int)≤(9223372036854775807:Int); omega)
   refine ar_mul ?_ ?_
   refine And.intro ?_ ?_
   (show (-9223372036854775808:Int)≤Tn.mg t * ((2:Int) ^ b - (1:Int)); omega)
   (show Tn.mg t * ((2:Int) ^ b - (1:Int))≤(9223372036854775807:Int); omega)
   refine ix_at hr1 ?_ ?_
   (show (0:Int)≤(↑p:Int); omega)
   refine ix_at hx1 ?_ ?_
   (show (0:Int)≤(↑c:Int); omega)
   refine ar_mul ?_ ?_
   refine And.intro ?_ ?_
   (show (-9223372036854775808:Int)≤Tn.mg t * ((2:Int) ^ b - (1:Int)) * x; omega)
   (show Tn.mg t * ((2:Int) ^ b - (1:Int)) * x≤(9223372036854775807:Int); omega)
   refine And.intro rfl ?_
   refine brk_f hzf ?_
   refine ix_at hs1 ?_ ?_
   (show (0:Int)≤(↑c:Int); omega)
   refine And.intro rfl ?_
   refine brk_eq (fun t1=>?_) (fun t1=>?_)
   rotate_left
   (exfalso; omega)
   all_goals exact fin _ _ e1
  ·have e1:pw t.mg x s b=((t.mg * (2 ^ b - 1) * x+s - 1) / s,true):=by rw [e,hzf,show (s==0)=false by rw [beq_eq_false_iff_ne]; exact h0]; rfl
   refine Exists.intro _ (And.intro hsh ?_)
   refine ar_sub ?_ ?_
   refine And.intro ?_ ?_
   (show (-9223372036854775808:Int)≤(2:Int) ^ b - (1:Int); omega)
   (show (2:Int) ^ b - (1:Int)≤(9223372036854775807:Int); omega)
   refine ar_mul ?_ ?_
   refine And.intro ?_ ?_
   (show (-9223372036854775808:Int)≤Tn.mg t * ((2:Int) ^ b - (1:Int)); omega)
   (show Tn.mg t * ((2:Int) ^ b - (1:Int))≤(9223372036854775807:Int); omega)
   refine ix_at hr1 ?_ ?_
   (show (0:Int)≤(↑p:Int); omega)
   refine ix_at hx1 ?_ ?_
   (show (0:Int)≤(↑c:Int); omega)
   refine ar_mul ?_ ?_
   refine And.intro ?_ ?_
   (show (-9223372036854775808:Int)≤Tn.mg t * ((2:Int) ^ b - (1:Int)) * x; omega)
   (show Tn.mg t * ((2:Int) ^ b - (1:Int)) * x≤(9223372036854775807:Int); omega)
   refine And.intro rfl ?_
   refine brk_f hzf ?_
   refine ix_at hs1 ?_ ?_
   (show (0:Int)≤(↑c:Int); omega)
   refine And.intro rfl ?_
   refine brk_eq (fun t1=>?_) (fun t1=>?_)
   (exfalso; omega)
   refine ar_add ?_ ?_
   refine And.intro ?_ ?_
   (show (-9223372036854775808:Int)≤Tn.mg t * ((2:Int) ^ b - (1:Int)) * x+s; omega)
   (show Tn.mg t * ((2:Int) ^ b - (1:Int)) * x+s≤(9223372036854775807:Int); omega)
   refine ar_sub ?_ ?_
   refine And.intro ?_ ?_
   (show (-9223372036854775808:Int)≤Tn.mg t * ((2:Int) ^ b - (1:Int)) * x+s - (1:Int); omega)
   (show Tn.mg t * ((2:Int) ^ b - (1:Int)) * x+s - (1:Int)≤(9223372036854775807:Int); omega)
   refine ar_quo ?_ ?_
   refine And.intro ?_ ?_
   (show (0:Int)≤Tn.mg t * ((2:Int) ^ b - (1:Int)) * x+s - (1:Int); omega)
   refine And.intro ?_ ?_
   (show Tn.mg t * ((2:Int) ^ b - (1:Int)) * x+s - (1:Int)≤(9223372036854775807:Int); omega)
   (show (1:Int)≤s; omega)
   rotate_left
   all_goals exact fin _ _ e1
def cB (t:Tn) (p c b:Nat):Bool:=(pwA t p c b).2&&(decide ((pwA t p c b).1≤t.mx)&&!(t.nt.contains (c:Int)))
def crT (P:Nat→Bool):Nat→Nat
 | 0=>0
 | k+1=>bif P k then k else crT P k
theorem crT_le (P:Nat→Bool):∀ k,crT P k≤k
 | 0=>Nat.le_refl _
 | k+1=>by
  have:=crT_le P k
  rw [crT]
  cases P k
  ·show crT P k≤k+1; omega
  ·show k≤k+1; omega
theorem crT_lt (P:Nat→Bool):∀ k,crT P (k+1)≤k
 | 0=>by rw [crT]; cases P 0 <;> exact Nat.le_refl _
 | k+1=>by
  have:=crT_lt P k
  rw [crT]
  cases P (k+1)
  ·show crT P (k+1)≤k+1; omega
  ·exact Nat.le_refl _
def carry (t:Tn) (p c:Nat):Nat:=crT (cB t p c) 7
def jr31:AFun:=⟨39,1,[.tmp 6],
 (.seq
 (.reg [0] [⟨some 3,.cbx 0 5 (.tmp 0),none⟩,
  ⟨some 6,.mov (.cst (.d (.int .i64 0))),none⟩])
 (.seq
  (.reg [] [⟨some 7,.mov (.cst (.d (.int .i64 0))),none⟩])
  (.seq
  (.seq
   (.reg [] [⟨some 11,.mov (.cst (.d (.int .i64 0))),none⟩])
   (.post [7] [0]
   (.block 0
    (.keep [1,2,3,7,11] [0]
    (.loop
     (.post [1,2,3,7,11] []
     (.seq
      (.reg [] [⟨some 12,.cmp .lss (.tmp 11) (.cst (.d (.int .i64 7))),none⟩])
      (.seq
      (.cond (.tmp 12)
       .skip
       (.exit 0))
      (.seq
       (.block 1
       (.seq
        (.reg [] [⟨some 13,.mov (.tmp 11),none⟩,
         ⟨some 8,.mov (.tmp 13),none⟩])
        (.seq
        (.reg [] [⟨some 15,.ld true 5 (.tmp 3),none⟩,
         ⟨some 16,.mov (.tmp 1),none⟩,
         ⟨some 17,.mov (.tmp 2),none⟩,
         ⟨some 18,.mov (.tmp 8),none⟩,
         ⟨some 19,.call 32 [(.tmp 15),(.tmp 16),(.tmp 17),(.tmp 18)],none⟩,
         ⟨some 14,.mov (.tmp 19),none⟩,
         ⟨some 20,.ext 0 (.tmp 14),none⟩,
         ⟨some 21,.ext 1 (.tmp 14),none⟩,
         ⟨some 9,.mov (.tmp 20),none⟩,
         ⟨some 10,.mov (.tmp 21),none⟩])
        (.seq
         (.reg [] [⟨some 22,.mov (.tmp 10),none⟩,
          ⟨some 23,.mov (.tmp 22),none⟩,
          ⟨some 24,.mov (.tmp 9),some (23,true)⟩,
          ⟨some 25,.fad 3 (.tmp 3),some (23,true)⟩,
          ⟨some 26,.ld false 1 (.tmp 25),some (23,true)⟩,
          ⟨some 27,.cmp .leq (.tmp 24) (.tmp 26),some (23,true)⟩,
          ⟨some 28,.pick (.tmp 23) (.tmp 27) (.cst (.d (.bool false))),none⟩,
          ⟨some 29,.mov (.tmp 28),none⟩,
          ⟨some 30,.fad 4 (.tmp 3),some (29,true)⟩,
          ⟨some 31,.ld false 1 (.tmp 30),some (29,true)⟩,
          ⟨some 32,.mov (.tmp 2),some (29,true)⟩,
          ⟨some 33,.call 54 [(.tmp 31),(.tmp 32)],some (29,true)⟩,
          ⟨some 34,.not (.tmp 33),some (29,true)⟩,
          ⟨some 35,.pick (.tmp 29) (.tmp 34) (.cst (.d (.bool false))),none⟩])
         (.cond (.tmp 35)
         (.reg [] [⟨some 36,.mov (.tmp 8),none⟩,
          ⟨some 7,.mov (.tmp 36),none⟩])
         .skip)))))
       (.reg [] [⟨some 37,.arith .add .i64 (.tmp 11) (.cst (.d (.int .i64 1))),none⟩,
        ⟨some 11,.mov (.tmp 37),none⟩]))))))))))
  (.seq
   (.reg [] [⟨some 38,.mov (.tmp 7),none⟩,
    ⟨some 6,.mov (.tmp 38),none⟩])
   .ret))))⟩
theorem k31 {t : Tn} (h : t.ok) {p c : Nat} (hp : p < t.nz.length) (hc : c < t.sg.length) :
  CallDet Try.prog 31 [.d t.d,.d (.int .i64 p),.d (.int .i64 c)] [.int .i64 (carry t p c:Nat)]:=by
 have hnt:=h.nts
 have c54_:=c104 t.nt (c:Int) (by omega)
 refine call_of_vc (x:=jr31) (by kernel_rfl) rfl ?_
 refine loop_st (fun k:Nat=>⟨[(1,.d (.int .i64 p)),(2,.d (.int .i64 c)),(3,.ptr 0 0),(7,.d (.int .i64 (crT (cB t p c) k:Nat))),(11,.d (.int .i64 k))],[.cbox [.slice 1 (ints t.sg),.slice 1 (rws t.nz),.int .i64 t.mg,.int .i64 t.mx,.slice 1 (ints t.nt)]]⟩) (fun k=>k≤7) (fun k=>7 - k) 0 rfl (by omega) ?_
 intro k hk
 have hk:k≤7:=hk
 dsimp only
 by_cases h7:k < 7
 ·have fin:∀ v:Nat,v=crT (cB t p c) (k+1)→∃ a':Nat,(a'≤7∧7 - a' < 7 - k)∧(⟨[(1,.d (.int .i64 p)),(2,.d (.int .i64 c)),(3,.ptr 0 0),(7,.d (.int .i64 v)),(11,.d (.int .i64 ((k:Int)+1)))],[.cbox [.slice 1 (ints t.sg),.slice 1 (rws t.nz),.int .i64 t.mg,.int .i64 t.mx,.slice 1 (ints t.nt)]]⟩:St)=⟨[(1,.d (.int .i64 p)),(2,.d (.int .i64 c)),(3,.ptr 0 0),(7,.d (.int .i64 (crT (cB t p c) a':Nat))),(11,.d (.int .i64 (a':Nat)))],[.cbox [.slice 1 (ints t.sg),.slice 1 (rws t.nz),.int .i64 t.mg,.int .i64 t.mx,.slice 1 (ints t.nt)]]⟩:=fun v e=>⟨k+1,⟨by omega,by omega⟩,by rw [e]; rfl⟩
  have c32_:=k32 h hp hc (show k≤6 by omega)
  have eP:cB t p c k=((pwA t p c k).2&&(decide ((pwA t p c k).1≤t.mx)&&!(t.nt.contains (c:Int)))):=rfl
  have ec:crT (cB t p c) (k+1)=bif cB t p c k then k else crT (cB t p c) k:=rfl
  have hb:=crT_le (cB t p c) k
  rw [ec,eP] at fin
  generalize crT (cB t p c) k=w at *
  generalize pwA t p c k=z at *
  obtain ⟨z1,z2⟩:=z
  generalize t.nt.contains (c:Int)=q at *
  have c32_:CallDet Try.prog 32 [.d t.d,.d (.int .i64 p),.d (.int .i64 c),.d (.int .i64 k)] [.int .i64 z1,.bool z2]:=c32_
  by_cases hz:z1≤t.mx
  ·cases z2
   ·cases q
    ·refine And.intro rfl ?_
     refine brk_lt (fun t1=>?_) (fun t1=>?_)
     refine Exists.intro _ (And.intro c32_ ?_)
     refine And.intro rfl ?_
     refine And.intro rfl ?_
     refine ar_add ?_ ?_
     refine And.intro ?_ ?_
     (show (-9223372036854775808:Int)≤(↑k:Int)+(1:Int); omega)
     (show (↑k:Int)+(1:Int)≤(9223372036854775807:Int); omega)
     rotate_left
     (exfalso; omega)
     all_goals exact fin _ (by show _=bif _&&(decide (z1≤t.mx)&&_) then k else w; rw [decide_eq_true hz]; rfl)
    ·refine And.intro rfl ?_
     refine brk_lt (fun t1=>?_) (fun t1=>?_)
     refine Exists.intro _ (And.intro c32_ ?_)
     refine And.intro rfl ?_
     refine And.intro rfl ?_
     refine ar_add ?_ ?_
     refine And.intro ?_ ?_
     (show (-9223372036854775808:Int)≤(↑k:Int)+(1:Int); omega)
     (show (↑k:Int)+(1:Int)≤(9223372036854775807:Int); omega)
     rotate_left
     (exfalso; omega)
     all_goals exact fin _ (by show _=bif _&&(decide (z1≤t.mx)&&_) then k else w; rw [decide_eq_true hz]; rfl)
   ·cases q
    ·refine And.intro rfl ?_
     refine brk_lt (fun t1=>?_) (fun t1=>?_)
     refine Exists.intro _ (And.intro c32_ ?_)
     refine And.intro rfl ?_
     refine brk_le (fun t2=>?_) (fun t2=>?_)
     refine Exists.intro _ (And.intro c54_ ?_)
     refine ar_add ?_ ?_
     refine And.intro ?_ ?_
     (show (-9223372036854775808:Int)≤(↑k:Int)+(1:Int); omega)
     (show (↑k:Int)+(1:Int)≤(9223372036854775807:Int); omega)
     rotate_left
     (exfalso; omega)
     (exfalso; omega)
     all_goals exact fin _ (by show _=bif _&&(decide (z1≤t.mx)&&_) then k else w; rw [decide_eq_true hz]; rfl)
    ·refine And.intro rfl ?_
     refine brk_lt (fun t1=>?_) (fun t1=>?_)
     refine Exists.intro _ (And.intro c32_ ?_)
     refine And.intro rfl ?_
     refine brk_le (fun t2=>?_) (fun t2=>?_)
     refine Exists.intro _ (And.intro c54_ ?_)
     refine ar_add ?_ ?_
     refine And.intro ?_ ?_
     (show (-9223372036854775808:Int)≤(↑k:Int)+(1:Int); omega)
     (show (↑k:Int)+(1:Int)≤(9223372036854775807:Int); omega)
     rotate_left
     (exfalso; omega)
     (exfalso; omega)
     all_goals exact fin _ (by show _=bif _&&(decide (z1≤t.mx)&&_) then k else w; rw [decide_eq_true hz]; rfl)
  ·cases z2
   ·cases q
    ·refine And.intro rfl ?_
     refine brk_lt (fun t1=>?_) (fun t1=>?_)
     refine Exists.intro _ (And.intro c32_ ?_)
     refine And.intro rfl ?_
     refine And.intro rfl ?_
     refine ar_add ?_ ?_
     refine And.intro ?_ ?_
     (show (-9223372036854775808:Int)≤(↑k:Int)+(1:Int); omega)
     (show (↑k:Int)+(1:Int)≤(9223372036854775807:Int); omega)
     rotate_left
     (exfalso; omega)
     all_goals exact fin _ (by show _=bif _&&(decide (z1≤t.mx)&&_) then k else w; rw [decide_eq_false hz]; rfl)
    ·refine And.intro rfl ?_
     refine brk_lt (fun t1=>?_) (fun t1=>?_)
     refine Exists.intro _ (And.intro c32_ ?_)
     refine And.intro rfl ?_
     refine And.intro rfl ?_
     refine ar_add ?_ ?_
     refine And.intro ?_ ?_
     (show (-9223372036854775808:Int)≤(↑k:Int)+(1:Int); omega)
     (show (↑k:Int)+(1:Int)≤(9223372036854775807:Int); omega)
     rotate_left
     (exfalso; omega)
     all_goals exact fin _ (by show _=bif _&&(decide (z1≤t.mx)&&_) then k else w; rw [decide_eq_false hz]; rfl)
   ·cases q
    ·refine And.intro rfl ?_
     refine brk_lt (fun t1=>?_) (fun t1=>?_)
     refine Exists.intro _ (And.intro c32_ ?_)
     refine And.intro rfl ?_
     refine brk_le (fun t2=>?_) (fun t2=>?_)
     (exfalso; omega)
     refine And.intro rfl ?_
     refine ar_add ?_ ?_
     refine And.intro ?_ ?_
     (show (-9223372036854775808:Int)≤(↑k:Int)+(1:Int); omega)
     (show (↑k:Int)+(1:Int)≤(9223372036854775807:Int); omega)
     rotate_left
     (exfalso; omega)
     all_goals exact fin _ (by show _=bif _&&(decide (z1≤t.mx)&&_) then k else w; rw [decide_eq_false hz]; rfl)
    ·refine And.intro rfl ?_
     refine brk_lt (fun t1=>?_) (fun t1=>?_)
     refine Exists.intro _ (And.intro c32_ ?_)
     refine And.intro rfl ?_
     refine brk_le (fun t2=>?_) (fun t2=>?_)
     (exfalso; omega)
     refine And.intro rfl ?_
     refine ar_add ?_ ?_
     refine And.intro ?_ ?_
     (show (-9223372036854775808:Int)≤(↑k:Int)+(1:Int); omega)
     (show (↑k:Int)+(1:Int)≤(9223372036854775807:Int); omega)
     rotate_left
     (exfalso; omega)
     all_goals exact fin _ (by show _=bif _&&(decide (z1≤t.mx)&&_) then k else w; rw [decide_eq_false hz]; rfl)
 ·have e7:k=7:=by omega
  subst e7
  refine And.intro rfl ?_
  exact rfl
end Vc
set_option maxRecDepth 10000
set_option maxHeartbeats 4000000
namespace Vc
open Go Go.Proofs
def carT (t:Tn) (p:Nat):Nat→List Int
 | 0=>[]
 | k+1=>carT t p k++[(carry t p k:Int)]
theorem carT_succ (t:Tn) (p k:Nat):carT t p (k+1)=carT t p k++[(carry t p k:Int)]:=rfl
theorem carT_len (t:Tn) (p:Nat):∀ k,(carT t p k).length=k
 | 0=>rfl
 | k+1=>by rw [carT_succ,List.length_append,carT_len t p k]; rfl
theorem carT_at (t:Tn) (p:Nat):∀ {k c:Nat},c < k→(carT t p k)[c]?=some (carry t p c:Int)
 | k+1,c,h=>by
  rw [carT_succ]
  by_cases hc:c < k
  ·rw [List.getElem?_append_left (by rw [carT_len]; exact hc)]; exact carT_at t p hc
  ·have e:c=k:=by omega
   subst e
   rw [List.getElem?_append_right (by rw [carT_len]; exact Nat.le_refl _),carT_len,Nat.sub_self]; rfl
def allF (t:Tn) (p:Nat):List Int:=carT t p t.sg.length
def jr26:AFun:=⟨22,3,[.tmp 4],
 (.seq
 (.reg [0] [⟨some 2,.cbx 0 5 (.tmp 0),none⟩,
  ⟨some 4,.mov (.cst (.nils 1)),none⟩])
 (.seq
  (.reg [] [⟨some 5,.mov (.cst (.nils 1)),none⟩])
  (.seq
  (.seq
   (.reg [] [⟨some 7,.fad 0 (.tmp 2),none⟩,
    ⟨some 8,.ld false 1 (.tmp 7),none⟩,
    ⟨some 9,.len (.tmp 8),none⟩,
    ⟨some 10,.mov (.cst (.d (.int .i64 0))),none⟩])
   (.post [5] [0,1,2]
   (.block 0
    (.asrow 2 3 1 5
    (.keep [1,2,5,9,10] [0]
     (.loop
     (.post [1,2,5,9,10] [1,2]
      (.seq
      (.reg [] [⟨some 11,.cmp .lss (.tmp 10) (.tmp 9),none⟩])
      (.seq
       (.cond (.tmp 11)
       .skip
       (.exit 0))
       (.seq
       (.block 1
        (.seq
        (.reg [] [⟨some 12,.mov (.tmp 10),none⟩,
         ⟨some 6,.mov (.tmp 12),none⟩])
        (.reg [1,2] [⟨some 13,.mov (.tmp 5),none⟩,
         ⟨some 14,.ld true 5 (.tmp 2),none⟩,
         ⟨some 15,.mov (.tmp 1),none⟩,
         ⟨some 16,.mov (.tmp 6),none⟩,
         ⟨some 17,.call 31 [(.tmp 14),(.tmp 15),(.tmp 16)],none⟩,
         ⟨some 18,.bsl 1 3 1 1 [(.int .i64 0)] [(0,(.tmp 17))],none⟩,
         ⟨some 19,.app 2 3 1 8 (.tmp 13) (.tmp 18),none⟩,
         ⟨some 5,.mov (.tmp 19),none⟩])))
       (.reg [] [⟨some 20,.arith .add .i64 (.tmp 10) (.cst (.d (.int .i64 1))),none⟩,
        ⟨some 10,.mov (.tmp 20),none⟩])))))))))))
  (.seq
   (.reg [] [⟨some 21,.mov (.tmp 5),none⟩,
    ⟨some 4,.mov (.tmp 21),none⟩])
   .ret))))⟩
theorem k26 {t:Tn} (h:t.ok) {p:Nat} (hp:p < t.nz.length):CallDet Try.prog 26 [.d t.d,.d (.int .i64 p)] [.slice 1 (ints (allF t p))]:=by
 refine call_of_vc (x:=jr26) (by kernel_rfl) rfl ?_
 have hn8:=h.n8
 have hl2:(ints t.sg).length=t.sg.length:=by simp [ints]
 refine loop_st (fun k:Nat=>⟨[(1,.d (.int .i64 p)),(2,.ptr 0 0),(5,.sl 2 (ints (carT t p k)).length),(9,.d (.int .i64 ((ints t.sg).length:Int))),(10,.d (.int .i64 k))],[.cbox [.slice 1 (ints t.sg),.slice 1 (rws t.nz),.int .i64 t.mg,.int .i64 t.mx,.slice 1 (ints t.nt)],.none,.row 3 1 (ints (carT t p k)) false]⟩) (fun k=>k≤t.sg.length) (fun k=>t.sg.length - k) 0 rfl (Nat.zero_le _) ?_
 intro k hk
 have hk:k≤t.sg.length:=hk
 dsimp only
 have hcl:=carT_len t p k
 have hil:(ints (carT t p k)).length=k:=by rw [ints_len]; exact hcl
 by_cases hkn:k < t.sg.length
 ·have c31_:=k31 h hp hkn
  have hc8:=crT_lt (cB t p k) 6
  have hcv:carry t p k≤6:=hc8
  have fin:∀ r:List Data,r=ints (carT t p (k+1))→∃ a':Nat,(a'≤t.sg.length∧t.sg.length - a' < t.sg.length - k)∧(⟨[(1,.d (.int .i64 p)),(2,.ptr 0 0),(5,.sl 2 r.length),(9,.d (.int .i64 ((ints t.sg).length:Int))),(10,.d (.int .i64 ((k:Int)+1)))],[.cbox [.slice 1 (ints t.sg),.slice 1 (rws t.nz),.int .i64 t.mg,.int .i64 t.mx,.slice 1 (ints t.nt)],.none,.row 3 1 r false]⟩:St)=⟨[(1,.d (.int .i64 p)),(2,.ptr 0 0),(5,.sl 2 (ints (carT t p a')).length),(9,.d (.int .i64 ((ints t.sg).length:Int))),(10,.d (.int .i64 (a':Nat)))],[.cbox [.slice 1 (ints t.sg),.slice 1 (rws t.nz),.int .i64 t.mg,.int .i64 t.mx,.slice 1 (ints t.nt)],.none,.row 3 1 (ints (carT t p a')) false]⟩:=fun r e=>⟨k+1,⟨by omega,by omega⟩,by rw [e]; rfl⟩
  have e1:ints (carT t p k)++[Data.int .i64 (carry t p k:Nat)]=ints (carT t p (k+1)):=by rw [carT_succ,ints_snoc]
  have hb1:((ints (carT t p k)).length+1) * 8≤2 ^ 47:=by omega
  have hb2:(ints (carT t p k)).length+1≤2 ^ 47:=by omega
  refine And.intro rfl ?_
  refine brk_lt (fun t1=>?_) (fun t1=>?_)
  refine Exists.intro _ (And.intro c31_ ?_)
  refine And.intro rfl ?_
  refine And.intro rfl ?_
  refine And.intro rfl ?_
  refine And.intro ?_ ?_
  refine And.intro ?_ ?_
  exact rfl
  refine And.intro ?_ ?_
  exact rfl
  refine And.intro ?_ ?_
  exact rfl
  refine And.intro ?_ ?_
  assumption
  assumption
  refine ar_add ?_ ?_
  refine And.intro ?_ ?_
  (show (-9223372036854775808:Int)≤(↑k:Int)+(1:Int); omega)
  (show (↑k:Int)+(1:Int)≤(9223372036854775807:Int); omega)
  rotate_left
  (exfalso; omega)
  all_goals (refine fin (ints (carT t p k)++[Data.int .i64 (carry t p k:Nat)]) e1)
 ·have e7:k=t.sg.length:=by omega
  subst e7
  refine And.intro rfl ?_
  refine brk_lt (fun t1=>?_) (fun t1=>?_)
  (exfalso; omega)
  refine And.intro rfl ?_
  exact rfl
  all_goals exact rfl
theorem k26r {t:Tn} (h:t.ok) {p:Nat} (hp:p < t.nz.length):CallRow Try.prog 26 [.d t.d,.d (.int .i64 p)] 3 1 (ints (allF t p)):=by
 refine callRow_of_vc (x:=jr26) (by kernel_rfl) rfl ?_
 have hn8:=h.n8
 have hl2:(ints t.sg).length=t.sg.length:=by simp [ints]
 refine loop_st (fun k:Nat=>⟨[(1,.d (.int .i64 p)),(2,.ptr 0 0),(5,.sl 2 (ints (carT t p k)).length),(9,.d (.int .i64 ((ints t.sg).length:Int))),(10,.d (.int .i64 k))],[.cbox [.slice 1 (ints t.sg),.slice 1 (rws t.nz),.int .i64 t.mg,.int .i64 t.mx,.slice 1 (ints t.nt)],.none,.row 3 1 (ints (carT t p k)) false]⟩) (fun k=>k≤t.sg.length) (fun k=>t.sg.length - k) 0 rfl (Nat.zero_le _) ?_
 intro k hk
 have hk:k≤t.sg.length:=hk
 dsimp only
 have hcl:=carT_len t p k
 have hil:(ints (carT t p k)).length=k:=by rw [ints_len]; exact hcl
 by_cases hkn:k < t.sg.length
 ·have c31_:=k31 h hp hkn
  have hc8:=crT_lt (cB t p k) 6
  have hcv:carry t p k≤6:=hc8
  have fin:∀ r:List Data,r=ints (carT t p (k+1))→∃ a':Nat,(a'≤t.sg.length∧t.sg.length - a' < t.sg.length - k)∧(⟨[(1,.d (.int .i64 p)),(2,.ptr 0 0),(5,.sl 2 r.length),(9,.d (.int .i64 ((ints t.sg).length:Int))),(10,.d (.int .i64 ((k:Int)+1)))],[.cbox [.slice 1 (ints t.sg),.slice 1 (rws t.nz),.int .i64 t.mg,.int .i64 t.mx,.slice 1 (ints t.nt)],.none,.row 3 1 r false]⟩:St)=⟨[(1,.d (.int .i64 p)),(2,.ptr 0 0),(5,.sl 2 (ints (carT t p a')).length),(9,.d (.int .i64 ((ints t.sg).length:Int))),(10,.d (.int .i64 (a':Nat)))],[.cbox [.slice 1 (ints t.sg),.slice 1 (rws t.nz),.int .i64 t.mg,.int .i64 t.mx,.slice 1 (ints t.nt)],.none,.row 3 1 (ints (carT t p a')) false]⟩:=fun r e=>⟨k+1,⟨by omega,by omega⟩,by rw [e]; rfl⟩
  have e1:ints (carT t p k)++[Data.int .i64 (carry t p k:Nat)]=ints (carT t p (k+1)):=by rw [carT_succ,ints_snoc]
  have hb1:((ints (carT t p k)).length+1) * 8≤2 ^ 47:=by omega
  have hb2:(ints (carT t p k)).length+1≤2 ^ 47:=by omega
  refine And.intro rfl ?_
  refine brk_lt (fun t1=>?_) (fun t1=>?_)
  refine Exists.intro _ (And.intro c31_ ?_)
  refine And.intro rfl ?_
  refine And.intro rfl ?_
  refine And.intro rfl ?_
  refine And.intro ?_ ?_
  refine And.intro ?_ ?_
  exact rfl
  refine And.intro ?_ ?_
  exact rfl
  refine And.intro ?_ ?_
  exact rfl
  refine And.intro ?_ ?_
  assumption
  assumption
  refine ar_add ?_ ?_
  refine And.intro ?_ ?_
  (show (-9223372036854775808:Int)≤(↑k:Int)+(1:Int); omega)
  (show (↑k:Int)+(1:Int)≤(9223372036854775807:Int); omega)
  rotate_left
  (exfalso; omega)
  all_goals (refine fin (ints (carT t p k)++[Data.int .i64 (carry t p k:Nat)]) e1)
 ·have e7:k=t.sg.length:=by omega
  subst e7
  refine And.intro rfl ?_
  refine brk_lt (fun t1=>?_) (fun t1=>?_)
  (exfalso; omega)
  rotate_left
  all_goals exact .inl ⟨2,⟨rfl,rfl⟩,rfl⟩
end Vc
set_option maxRecDepth 10000
set_option maxHeartbeats 4000000
namespace Vc
open Go Go.Proofs
theorem get_lt {α:Type} (l:List α) {k:Nat} (h:k < l.length):∃ x,l[k]?=some x:=⟨_,List.getElem?_eq_getElem h⟩
def lastN (l:List Int):Nat→Int
 | 0=>-1
 | k+1=>l[k]?.getD 0
theorem z2:CallDet Try.prog 28 [.d (.slice 1 [.int .i64 0,.int .i64 0])] [.int .i64 0]:=f2 0 0
theorem z29 {b:Bool} {e:Int} (h:b=false):CallDet Try.prog 29 [.d (.bool b),.d (.int .i64 e)] [.int .i64 0]:=by subst h; exact t29 false e
def jr27:AFun:=⟨101,5,[.tmp 2],
 (.seq
 (.reg [0] [⟨some 1,.cbx 0 5 (.tmp 0),none⟩,
  ⟨some 2,.mov (.cst (.d (.int .i64 0))),none⟩])
 (.seq
  (.seq
  (.regd [1] [⟨some 12,.fad 0 (.tmp 1),none⟩,
   ⟨some 13,.ld false 1 (.tmp 12),none⟩,
   ⟨some 14,.len (.tmp 13),none⟩,
   ⟨some 15,.cmp .eql (.tmp 14) (.cst (.d (.int .i64 0))),none⟩,
   ⟨some 16,.call 29 [(.tmp 15),(.cst (.d (.int .i64 12)))],none⟩,
   ⟨some 17,.fad 0 (.tmp 1),none⟩,
   ⟨some 18,.ld false 1 (.tmp 17),none⟩,
   ⟨some 19,.len (.tmp 18),none⟩,
   ⟨some 20,.cmp .gtr (.tmp 19) (.cst (.d (.int .i64 8))),none⟩,
   ⟨some 21,.call 29 [(.tmp 20),(.cst (.d (.int .i64 5)))],none⟩,
   ⟨some 22,.fad 0 (.tmp 1),none⟩,
   ⟨some 23,.ld false 1 (.tmp 22),none⟩,
   ⟨some 24,.call 30 [(.tmp 23),(.cst (.d (.int .i64 0))),(.cst (.d (.int .i64 1000000000)))],none⟩,
   ⟨some 25,.fad 1 (.tmp 1),none⟩,
   ⟨some 26,.ld false 1 (.tmp 25),none⟩,
   ⟨some 27,.len (.tmp 26),none⟩,
   ⟨some 28,.cmp .eql (.tmp 27) (.cst (.d (.int .i64 0))),none⟩,
   ⟨some 29,.call 29 [(.tmp 28),(.cst (.d (.int .i64 12)))],none⟩,
   ⟨some 30,.fad 1 (.tmp 1),none⟩,
   ⟨some 31,.ld false 1 (.tmp 30),none⟩,
   ⟨some 32,.len (.tmp 31),none⟩,
   ⟨some 33,.cmp .gtr (.tmp 32) (.cst (.d (.int .i64 8))),none⟩,
   ⟨some 34,.call 29 [(.tmp 33),(.cst (.d (.int .i64 5)))],none⟩,
   ⟨some 35,.bsl 1 30 1 5 [(.int .i64 0),(.int .i64 0),(.int .i64 0),(.int .i64 0),(.int .i64 0)] [(0,(.tmp 16)),(1,(.tmp 21)),(2,(.tmp 24)),(3,(.tmp 29)),(4,(.tmp 34))],none⟩,
   ⟨some 36,.call 28 [(.tmp 35)],none⟩,
   ⟨some 3,.mov (.tmp 36),none⟩] [(0,5),(1,5),(2,5),(3,5),(4,5),(0,6),(1,6),(2,6),(3,6),(4,6),(0,7),(1,7),(2,7),(3,7),(4,7),(0,8),(1,8),(2,8),(3,8),(4,8),(0,10),(1,10),(2,10),(3,10),(4,10),(5,10),(6,10),(7,10),(8,10),(9,10),(0,11),(1,11),(2,11),(3,11),(4,11),(5,11),(6,11),(7,11),(8,11),(9,11),(0,13),(1,13),(2,13),(3,13),(4,13),(5,13),(6,13),(7,13),(8,13),(9,13),(10,13),(11,13),(12,13),(0,14),(1,14),(2,14),(3,14),(4,14),(5,14),(6,14),(7,14),(8,14),(9,14),(10,14),(11,14),(12,14),(0,15),(1,15),(2,15),(3,15),(4,15),(5,15),(6,15),(7,15),(8,15),(9,15),(10,15),(11,15),(12,15),(0,16),(1,16),(2,16),(3,16),(4,16),(5,16),(6,16),(7,16),(8,16),(9,16),(10,16),(11,16),(12,16),(0,18),(1,18),(2,18),(3,18),(4,18),(5,18),(6,18),(7,18),(8,18),(9,18),(10,18),(11,18),(12,18),(13,18),(14,18),(15,18),(16,18),(17,18),(0,19),(1,19),(2,19),(3,19),(4,19),(5,19),(6,19),(7,19),(8,19),(9,19),(10,19),(11,19),(12,19),(13,19),(14,19),(15,19),(16,19),(17,19),(0,20),(1,20),(2,20),(3,20),(4,20),(5,20),(6,20),(7,20),(8,20),(9,20),(10,20),(11,20),(12,20),(13,20),(14,20),(15,20),(16,20),(17,20),(0,21),(1,21),(2,21),(3,21),(4,21),(5,21),(6,21),(7,21),(8,21),(9,21),(10,21),(11,21),(12,21),(13,21),(14,21),(15,21),(16,21),(17,21)])
  (.seq
   (.reg [] [⟨some 37,.mov (.tmp 3),none⟩,
    ⟨some 38,.cmp .neq (.tmp 37) (.cst (.d (.int .i64 0))),none⟩])
   (.cond (.tmp 38)
   (.seq
    (.reg [] [⟨some 39,.mov (.tmp 3),none⟩,
     ⟨some 2,.mov (.tmp 39),none⟩])
    .ret)
   .skip)))
  (.seq
  (.seq
   (.reg [] [⟨some 40,.fad 1 (.tmp 1),none⟩,
    ⟨some 41,.ld false 1 (.tmp 40),none⟩,
    ⟨some 42,.len (.tmp 41),none⟩,
    ⟨some 43,.mov (.cst (.d (.int .i64 0))),none⟩])
   (.post [1] [0,1,2]
   (.block 0
    (.keep [1,41,42,43] [0,1]
    (.loop
     (.post [1,41,42,43] [2]
     (.seq
      (.reg [] [⟨some 44,.cmp .lss (.tmp 43) (.tmp 42),none⟩])
      (.seq
      (.cond (.tmp 44)
       .skip
       (.exit 0))
      (.seq
       (.block 1
       (.seq
        (.reg [] [⟨some 45,.ixa 1 (.tmp 41) (.tmp 43),none⟩,
         ⟨some 46,.ld false 1 (.tmp 45),none⟩,
         ⟨some 5,.mov (.tmp 46),none⟩])
        (.seq
        (.reg [2] [⟨some 47,.mov (.tmp 5),none⟩,
         ⟨some 48,.len (.tmp 47),none⟩,
         ⟨some 49,.fad 0 (.tmp 1),none⟩,
         ⟨some 50,.ld false 1 (.tmp 49),none⟩,
         ⟨some 51,.len (.tmp 50),none⟩,
         ⟨some 52,.cmp .neq (.tmp 48) (.tmp 51),none⟩,
         ⟨some 53,.call 29 [(.tmp 52),(.cst (.d (.int .i64 2)))],none⟩,
         ⟨some 54,.mov (.tmp 5),none⟩,
         ⟨some 55,.call 30 [(.tmp 54),(.cst (.d (.int .i64 1))),(.cst (.d (.int .i64 1000000)))],none⟩,
         ⟨some 56,.bsl 2 30 1 2 [(.int .i64 0),(.int .i64 0)] [(0,(.tmp 53)),(1,(.tmp 55))],none⟩,
         ⟨some 57,.call 28 [(.tmp 56)],none⟩,
         ⟨some 6,.mov (.tmp 57),none⟩])
        (.seq
         (.reg [] [⟨some 58,.mov (.tmp 6),none⟩,
          ⟨some 59,.cmp .neq (.tmp 58) (.cst (.d (.int .i64 0))),none⟩])
         (.cond (.tmp 59)
         (.seq
          (.reg [] [⟨some 60,.mov (.tmp 6),none⟩,
           ⟨some 2,.mov (.tmp 60),none⟩])
          .ret)
         .skip)))))
       (.reg [] [⟨some 61,.arith .add .i64 (.tmp 43) (.cst (.d (.int .i64 1))),none⟩,
        ⟨some 43,.mov (.tmp 61),none⟩]))))))))))
  (.seq
   (.seq
   (.regd [3] [⟨some 62,.fad 2 (.tmp 1),none⟩,
    ⟨some 63,.ld false 1 (.tmp 62),none⟩,
    ⟨some 64,.call 47 [(.tmp 63),(.cst (.d (.int .i64 1))),(.cst (.d (.int .i64 100)))],none⟩,
    ⟨some 65,.fad 3 (.tmp 1),none⟩,
    ⟨some 66,.ld false 1 (.tmp 65),none⟩,
    ⟨some 67,.call 47 [(.tmp 66),(.cst (.d (.int .i64 1))),(.cst (.d (.int .i64 1000000)))],none⟩,
    ⟨some 68,.bsl 3 30 1 2 [(.int .i64 0),(.int .i64 0)] [(0,(.tmp 64)),(1,(.tmp 67))],none⟩,
    ⟨some 69,.call 28 [(.tmp 68)],none⟩,
    ⟨some 7,.mov (.tmp 69),none⟩] [(0,3),(1,3),(2,3),(0,4),(1,4),(2,4)])
   (.seq
    (.reg [] [⟨some 70,.mov (.tmp 7),none⟩,
     ⟨some 71,.cmp .neq (.tmp 70) (.cst (.d (.int .i64 0))),none⟩])
    (.cond (.tmp 71)
    (.seq
     (.reg [] [⟨some 72,.mov (.tmp 7),none⟩,
      ⟨some 2,.mov (.tmp 72),none⟩])
     .ret)
    .skip)))
   (.seq
   (.reg [] [⟨some 8,.mov (.cst (.d (.int .i64 (-1)))),none⟩])
   (.seq
    (.seq
    (.reg [] [⟨some 73,.fad 4 (.tmp 1),none⟩,
     ⟨some 74,.ld false 1 (.tmp 73),none⟩,
     ⟨some 75,.len (.tmp 74),none⟩,
     ⟨some 76,.mov (.cst (.d (.int .i64 0))),none⟩])
    (.post [] [0,1,2,3,4]
     (.block 2
     (.keep [1,8,74,75,76] [0,1,2,3]
      (.loop
      (.post [1,8,74,75,76] [4]
       (.seq
       (.reg [] [⟨some 77,.cmp .lss (.tmp 76) (.tmp 75),none⟩])
       (.seq
        (.cond (.tmp 77)
        .skip
        (.exit 2))
        (.seq
        (.block 3
         (.seq
         (.reg [] [⟨some 78,.ixa 1 (.tmp 74) (.tmp 76),none⟩,
          ⟨some 79,.ld false 1 (.tmp 78),none⟩,
          ⟨some 10,.mov (.tmp 79),none⟩])
         (.seq
          (.seq
          (.reg [4] [⟨some 80,.mov (.tmp 10),none⟩,
           ⟨some 81,.cmp .lss (.tmp 80) (.cst (.d (.int .i64 0))),none⟩,
           ⟨some 82,.mov (.tmp 81),none⟩,
           ⟨some 83,.mov (.tmp 10),some (82,false)⟩,
           ⟨some 84,.fad 0 (.tmp 1),some (82,false)⟩,
           ⟨some 85,.ld false 1 (.tmp 84),some (82,false)⟩,
           ⟨some 86,.len (.tmp 85),some (82,false)⟩,
           ⟨some 87,.cmp .geq (.tmp 83) (.tmp 86),some (82,false)⟩,
           ⟨some 88,.pick (.tmp 82) (.cst (.d (.bool true))) (.tmp 87),none⟩,
           ⟨some 89,.call 29 [(.tmp 88),(.cst (.d (.int .i64 10)))],none⟩,
           ⟨some 90,.mov (.tmp 10),none⟩,
           ⟨some 91,.mov (.tmp 8),none⟩,
           ⟨some 92,.cmp .leq (.tmp 90) (.tmp 91),none⟩,
           ⟨some 93,.call 29 [(.tmp 92),(.cst (.d (.int .i64 11)))],none⟩,
           ⟨some 94,.bsl 4 30 1 2 [(.int .i64 0),(.int .i64 0)] [(0,(.tmp 89)),(1,(.tmp 93))],none⟩,
           ⟨some 95,.call 28 [(.tmp 94)],none⟩,
           ⟨some 11,.mov (.tmp 95),none⟩])
          (.seq
           (.reg [] [⟨some 96,.mov (.tmp 11),none⟩,
            ⟨some 97,.cmp .neq (.tmp 96) (.cst (.d (.int .i64 0))),none⟩])
           (.cond (.tmp 97)
           (.seq
            (.reg [] [⟨some 98,.mov (.tmp 11),none⟩,
             ⟨some 2,.mov (.tmp 98),none⟩])
            .ret)
           .skip)))
          (.reg [] [⟨some 99,.mov (.tmp 10),none⟩,
           ⟨some 8,.mov (.tmp 99),none⟩]))))
        (.reg [] [⟨some 100,.arith .add .i64 (.tmp 76) (.cst (.d (.int .i64 1))),none⟩,
         ⟨some 76,.mov (.tmp 100),none⟩]))))))))))
    (.seq
    (.reg [] [⟨some 2,.mov (.cst (.d (.int .i64 0))),none⟩])
    .ret)))))))⟩
def jr25:AFun:=⟨19,2,[.tmp 4],
 (.seq
 (.reg [0] [⟨some 2,.cbx 0 5 (.tmp 0),none⟩,
  ⟨some 4,.mov (.cst (.d (.int .i64 0))),none⟩])
 (.seq
  (.reg [1] [⟨some 5,.ld true 5 (.tmp 2),none⟩,
   ⟨some 6,.call 27 [(.tmp 5)],none⟩,
   ⟨some 7,.mov (.tmp 1),none⟩,
   ⟨some 8,.cmp .lss (.tmp 7) (.cst (.d (.int .i64 0))),none⟩,
   ⟨some 9,.mov (.tmp 8),none⟩,
   ⟨some 10,.mov (.tmp 1),some (9,false)⟩,
   ⟨some 11,.fad 1 (.tmp 2),some (9,false)⟩,
   ⟨some 12,.ld false 1 (.tmp 11),some (9,false)⟩,
   ⟨some 13,.len (.tmp 12),some (9,false)⟩,
   ⟨some 14,.cmp .geq (.tmp 10) (.tmp 13),some (9,false)⟩,
   ⟨some 15,.pick (.tmp 9) (.cst (.d (.bool true))) (.tmp 14),none⟩,
   ⟨some 16,.call 29 [(.tmp 15),(.cst (.d (.int .i64 10)))],none⟩,
   ⟨some 17,.bsl 1 30 1 2 [(.int .i64 0),(.int .i64 0)] [(0,(.tmp 6)),(1,(.tmp 16))],none⟩,
   ⟨some 18,.call 28 [(.tmp 17)],none⟩,
   ⟨some 4,.mov (.tmp 18),none⟩])
  .ret))⟩
theorem k27 {t:Tn} (h:t.ok):CallDet Try.prog 27 [.d t.d] [.int .i64 0]:=by
 have hn8:=h.n8
 have hn1:=h.n1
 have hp8:=h.p8
 have hp1:=h.p1
 have hnt:=h.nts
 have hmg:=h.mgb
 have hmx:=h.mxb
 have hl2:(ints t.sg).length=t.sg.length:=by simp [ints]
 have hl3:=rws_len t.nz
 have hl4:(ints t.nt).length=t.nt.length:=by simp [ints]
 refine call_of_vc (x:=jr27) (by kernel_rfl) rfl ?_
 have c29_1:CallDet Try.prog 29 [.d (.bool (((ints t.sg).length:Int)==0)),.d (.int .i64 12)] [.int .i64 0]:=z29 (by rw [beq_eq_false_iff_ne]; omega)
 have c29_2:CallDet Try.prog 29 [.d (.bool (decide (8 < ((ints t.sg).length:Int)))),.d (.int .i64 5)] [.int .i64 0]:=z29 (decide_eq_false (by omega))
 have c29_3:CallDet Try.prog 29 [.d (.bool (((rws t.nz).length:Int)==0)),.d (.int .i64 12)] [.int .i64 0]:=z29 (by rw [beq_eq_false_iff_ne]; omega)
 have c29_4:CallDet Try.prog 29 [.d (.bool (decide (8 < ((rws t.nz).length:Int)))),.d (.int .i64 5)] [.int .i64 0]:=z29 (decide_eq_false (by omega))
 have c30_1:CallDet Try.prog 30 [.d (.slice 1 (ints t.sg)),.d (.int .i64 0),.d (.int .i64 1000000000)] [.int .i64 0]:=by
  have h2:=t30 t.sg 0 1000000000 (by omega)
  rw [rngs_of h.sgb] at h2; exact h2
 have c28_5:CallDet Try.prog 28 [.d (.slice 1 [.int .i64 0,.int .i64 0,.int .i64 0,.int .i64 0,.int .i64 0])] [.int .i64 0]:=f5 0 0 0 0 0
 have c28_2:=z2
 have c47_1:CallDet Try.prog 47 [.d (.int .i64 t.mg),.d (.int .i64 1),.d (.int .i64 100)] [.int .i64 0]:=by
  have h2:=w3 t.mg 1 100
  rw [within_in hmg] at h2; exact h2
 have c47_2:CallDet Try.prog 47 [.d (.int .i64 t.mx),.d (.int .i64 1),.d (.int .i64 1000000)] [.int .i64 0]:=by
  have h2:=w3 t.mx 1 1000000
  rw [within_in hmx] at h2; exact h2
 refine And.intro rfl ?_
 refine Exists.intro _ (And.intro c29_1 ?_)
 refine And.intro rfl ?_
 refine Exists.intro _ (And.intro c29_2 ?_)
 refine Exists.intro _ (And.intro c30_1 ?_)
 refine And.intro rfl ?_
 refine Exists.intro _ (And.intro c29_3 ?_)
 refine And.intro rfl ?_
 refine Exists.intro _ (And.intro c29_4 ?_)
 refine And.intro rfl ?_
 refine And.intro rfl ?_
 refine Exists.intro _ (And.intro c28_5 ?_)
 refine And.intro rfl ?_
 rotate_left
 refine loop_st (fun k:Nat=>⟨[(1,.ptr 0 0),(41,.d (.slice 1 (rws t.nz))),(42,.d (.int .i64 ((rws t.nz).length:Int))),(43,.d (.int .i64 k))],[.cbox [.slice 1 (ints t.sg),.slice 1 (rws t.nz),.int .i64 t.mg,.int .i64 t.mx,.slice 1 (ints t.nt)],.none,.none,.none,.none]⟩) (fun k=>k≤t.nz.length) (fun k=>t.nz.length - k) 0 rfl (Nat.zero_le _) ?_
 intro k hk
 have hk:k≤t.nz.length:=hk
 dsimp only
 by_cases hkn:k < t.nz.length
 ·refine Exists.elim (get_lt t.nz (k:=k) hkn) fun r hr=>?_
  have hr1:=rws_at hr
  obtain ⟨hrl,hrb⟩:=h.rows r (List.mem_of_getElem? hr)
  have hl5:(ints r).length=r.length:=by simp [ints]
  have c29_5:CallDet Try.prog 29 [.d (.bool (((ints r).length:Int) != ((ints t.sg).length:Int))),.d (.int .i64 2)] [.int .i64 0]:=z29 (by rw [show (ints r).length=(ints t.sg).length by omega]; simp)
  have c30_2:CallDet Try.prog 30 [.d (.slice 1 (ints r)),.d (.int .i64 1),.d (.int .i64 1000000)] [.int .i64 0]:=by
   have h2:=t30 r 1 1000000 (by omega)
   rw [rngs_of hrb] at h2; exact h2
  have fin:∃ a':Nat,(a'≤t.nz.length∧t.nz.length - a' < t.nz.length - k)∧(⟨[(1,.ptr 0 0),(41,.d (.slice 1 (rws t.nz))),(42,.d (.int .i64 ((rws t.nz).length:Int))),(43,.d (.int .i64 ((k:Int)+1)))],[.cbox [.slice 1 (ints t.sg),.slice 1 (rws t.nz),.int .i64 t.mg,.int .i64 t.mx,.slice 1 (ints t.nt)],.none,.none,.none,.none]⟩:St)=⟨[(1,.ptr 0 0),(41,.d (.slice 1 (rws t.nz))),(42,.d (.int .i64 ((rws t.nz).length:Int))),(43,.d (.int .i64 (a':Nat)))],[.cbox [.slice 1 (ints t.sg),.slice 1 (rws t.nz),.int .i64 t.mg,.int .i64 t.mx,.slice 1 (ints t.nt)],.none,.none,.none,.none]⟩:=⟨k+1,⟨by omega,by omega⟩,rfl⟩
  refine And.intro rfl ?_
  refine brk_lt (fun t1=>?_) (fun t1=>?_)
  refine ix_at hr1 ?_ ?_
  (show (0:Int)≤(↑k:Int); omega)
  refine And.intro rfl ?_
  refine Exists.intro _ (And.intro c29_5 ?_)
  refine Exists.intro _ (And.intro c30_2 ?_)
  refine And.intro rfl ?_
  refine And.intro rfl ?_
  refine Exists.intro _ (And.intro c28_2 ?_)
  refine And.intro rfl ?_
  refine ar_add ?_ ?_
  refine And.intro ?_ ?_
  (show (-9223372036854775808:Int)≤(↑k:Int)+(1:Int); omega)
  (show (↑k:Int)+(1:Int)≤(9223372036854775807:Int); omega)
  rotate_left
  (exfalso; omega)
  all_goals exact fin
 ·refine And.intro rfl ?_
  refine brk_lt (fun t1=>?_) (fun t1=>?_)
  (exfalso; omega)
  refine Exists.intro _ (And.intro c47_1 ?_)
  refine Exists.intro _ (And.intro c47_2 ?_)
  refine And.intro rfl ?_
  refine And.intro rfl ?_
  refine Exists.intro _ (And.intro c28_2 ?_)
  refine And.intro rfl ?_
  rotate_left
  refine loop_st (fun k:Nat=>⟨[(1,.ptr 0 0),(8,.d (.int .i64 (lastN t.nt k))),(74,.d (.slice 1 (ints t.nt))),(75,.d (.int .i64 ((ints t.nt).length:Int))),(76,.d (.int .i64 k))],[.cbox [.slice 1 (ints t.sg),.slice 1 (rws t.nz),.int .i64 t.mg,.int .i64 t.mx,.slice 1 (ints t.nt)],.none,.none,.none,.none]⟩) (fun k=>k≤t.nt.length) (fun k=>t.nt.length - k) 0 rfl (Nat.zero_le _) ?_
  intro i hi
  have hi:i≤t.nt.length:=hi
  dsimp only
  by_cases hin:i < t.nt.length
  ·refine Exists.elim (get_lt t.nt (k:=i) hin) fun x hx=>?_
   have hx1:(ints t.nt)[((i:Int)).toNat]?=some (.int .i64 x):=ints_get hx
   obtain ⟨hxb,hxp⟩:=h.ntb i x hx
   have hlast:lastN t.nt i < x:=by
    cases i with
    | zero=>show (-1:Int) < x; omega
    | succ j =>
     have hj:j < t.nt.length:=by omega
     have e:lastN t.nt (j+1)=t.nt[j]:=by show t.nt[j]?.getD 0=_; rw [List.getElem?_eq_getElem hj]; rfl
     rw [e]
     exact hxp _ (by omega) (List.getElem?_eq_getElem hj)
   have hnx:lastN t.nt (i+1)=x:=by show t.nt[i]?.getD 0=x; rw [hx]; rfl
   have fin:∃ a':Nat,(a'≤t.nt.length∧t.nt.length - a' < t.nt.length - i)∧(⟨[(1,.ptr 0 0),(8,.d (.int .i64 x)),(74,.d (.slice 1 (ints t.nt))),(75,.d (.int .i64 ((ints t.nt).length:Int))),(76,.d (.int .i64 ((i:Int)+1)))],[.cbox [.slice 1 (ints t.sg),.slice 1 (rws t.nz),.int .i64 t.mg,.int .i64 t.mx,.slice 1 (ints t.nt)],.none,.none,.none,.none]⟩:St)=⟨[(1,.ptr 0 0),(8,.d (.int .i64 (lastN t.nt a'))),(74,.d (.slice 1 (ints t.nt))),(75,.d (.int .i64 ((ints t.nt).length:Int))),(76,.d (.int .i64 (a':Nat)))],[.cbox [.slice 1 (ints t.sg),.slice 1 (rws t.nz),.int .i64 t.mg,.int .i64 t.mx,.slice 1 (ints t.nt)],.none,.none,.none,.none]⟩:=⟨i+1,⟨by omega,by omega⟩,by rw [hnx]; rfl⟩
   generalize lastN t.nt i=last at *
   have c29_6:CallDet Try.prog 29 [.d (.bool (decide (((ints t.sg).length:Int)≤x))),.d (.int .i64 10)] [.int .i64 0]:=z29 (decide_eq_false (by omega))
   have c29_7:CallDet Try.prog 29 [.d (.bool (decide (x≤last))),.d (.int .i64 11)] [.int .i64 0]:=z29 (decide_eq_false (by omega))
   refine And.intro rfl ?_
   refine brk_lt (fun t2=>?_) (fun t2=>?_)
   refine ix_at hx1 ?_ ?_
   (show (0:Int)≤(↑i:Int); omega)
   refine And.intro rfl ?_
   refine brk_lt (fun t3=>?_) (fun t3=>?_)
   (exfalso; omega)
   refine And.intro rfl ?_
   refine Exists.intro _ (And.intro c29_6 ?_)
   refine And.intro rfl ?_
   refine Exists.intro _ (And.intro c29_7 ?_)
   refine And.intro rfl ?_
   refine And.intro rfl ?_
   refine Exists.intro _ (And.intro c28_2 ?_)
   refine And.intro rfl ?_
   refine ar_add ?_ ?_
   refine And.intro ?_ ?_
   (show (-9223372036854775808:Int)≤(↑i:Int)+(1:Int); omega)
   (show (↑i:Int)+(1:Int)≤(9223372036854775807:Int); omega)
   rotate_left
   (exfalso; omega)
   all_goals exact fin
  ·refine And.intro rfl ?_
   refine brk_lt (fun t2=>?_) (fun t2=>?_)
   (exfalso; omega)
   exact rfl
theorem k25 {t:Tn} (h:t.ok) {p:Nat} (hp:p < t.nz.length):CallDet Try.prog 25 [.d t.d,.d (.int .i64 p)] [.int .i64 0]:=by
 have hl3:=rws_len t.nz
 have c27_:=k27 h
 have c28_2:=z2
 have c29_1:CallDet Try.prog 29 [.d (.bool (decide (((rws t.nz).length:Int)≤(p:Int)))),.d (.int .i64 10)] [.int .i64 0]:=z29 (decide_eq_false (by omega))
 refine call_of_vc (x:=jr25) (by kernel_rfl) rfl ?_
 refine Exists.intro _ (And.intro c27_ ?_)
 refine And.intro rfl ?_
 refine And.intro rfl ?_
 refine Exists.intro _ (And.intro c29_1 ?_)
 refine And.intro rfl ?_
 refine And.intro rfl ?_
 refine Exists.intro _ (And.intro c28_2 ?_)
 exact rfl
def jr8:AFun:=⟨16,1,[.tmp 4,.tmp 5],
 (.seq
 (.reg [0] [⟨some 2,.cbx 0 5 (.tmp 0),none⟩,
  ⟨some 4,.mov (.cst (.nils 1)),none⟩,
  ⟨some 5,.mov (.cst (.d (.int .i64 0))),none⟩])
 (.seq
  (.seq
  (.reg [] [⟨some 7,.ld true 5 (.tmp 2),none⟩,
   ⟨some 8,.mov (.tmp 1),none⟩,
   ⟨some 9,.call 25 [(.tmp 7),(.tmp 8)],none⟩,
   ⟨some 6,.mov (.tmp 9),none⟩])
  (.seq
   (.reg [] [⟨some 10,.mov (.tmp 6),none⟩,
    ⟨some 11,.cmp .neq (.tmp 10) (.cst (.d (.int .i64 0))),none⟩])
   (.cond (.tmp 11)
   (.seq
    (.reg [] [⟨some 12,.mov (.tmp 6),none⟩,
     ⟨some 4,.mov (.cst (.nils 1)),none⟩,
     ⟨some 5,.mov (.tmp 12),none⟩])
    .ret)
   .skip)))
  (.seq
  (.reg [] [⟨some 13,.ld true 5 (.tmp 2),none⟩,
   ⟨some 14,.mov (.tmp 1),none⟩,
   ⟨some 15,.call 26 [(.tmp 13),(.tmp 14)],none⟩,
   ⟨some 4,.mov (.tmp 15),none⟩,
   ⟨some 5,.mov (.cst (.d (.int .i64 0))),none⟩])
  .ret)))⟩
theorem k8 {t:Tn} (h:t.ok) {p:Nat} (hp:p < t.nz.length):CallDet Try.prog 8 [.d t.d,.d (.int .i64 p)] [.slice 1 (ints (allF t p)),.int .i64 0]:=by
 have c25_:=k25 h hp
 have c26_:=k26 h hp
 refine call_of_vc (x:=jr8) (by kernel_rfl) rfl ?_
 refine Exists.intro _ (And.intro c25_ ?_)
 refine And.intro rfl ?_
 refine Exists.intro _ (And.intro c26_ ?_)
 exact rfl
def jr13:AFun:=⟨6,2,[.tmp 2],
 (.seq
 (.reg [] [⟨some 2,.mov (.cst (.nils 1)),none⟩])
 (.seq
  (.reg [0,1] [⟨some 3,.bsl 0 3 1 0 [] [],none⟩,
   ⟨some 4,.mov (.tmp 0),none⟩,
   ⟨some 5,.app 1 3 1 8 (.tmp 3) (.tmp 4),none⟩,
   ⟨some 2,.mov (.tmp 5),none⟩])
  .ret))⟩
theorem k13 (l:List Int) (hl:l.length≤1048576):CallDet Try.prog 13 [.d (.slice 1 (ints l))] [.slice 1 (ints l)]:=by
 have hl2:(ints l).length=l.length:=by simp [ints]
 refine call_of_vc (x:=jr13) (by kernel_rfl) rfl ?_
 have hb1:(0+(ints l).length) * 8≤2 ^ 47:=by omega
 have hb2:0+(ints l).length≤2 ^ 47:=by omega
 refine And.intro rfl ?_
 refine And.intro rfl ?_
 refine And.intro ?_ ?_
 refine And.intro ?_ ?_
 exact rfl
 refine And.intro ?_ ?_
 exact rfl
 refine And.intro ?_ ?_
 exact rfl
 refine And.intro ?_ ?_
 assumption
 assumption
 refine And.intro rfl ?_
 exact rfl
end Vc
set_option maxRecDepth 10000
set_option maxHeartbeats 4000000
namespace Vc
open Go Go.Proofs
def jr9:AFun:=⟨33,5,[.cell 2 5 true],
 (.seq
 (.reg [0,1] [⟨some 1,.cbx 0 5 (.tmp 0),none⟩,
  ⟨some 2,.alloc 1 [(.nils 1),(.nils 1),(.d (.int .i64 0)),(.d (.int .i64 0)),(.nils 1)],none⟩])
 (.seq
  (.regd [2] [⟨some 6,.fad 0 (.tmp 1),none⟩,
   ⟨some 7,.ld false 1 (.tmp 6),none⟩,
   ⟨some 8,.call 13 [(.tmp 7)],none⟩,
   ⟨some 9,.fad 2 (.tmp 1),none⟩,
   ⟨some 10,.ld false 1 (.tmp 9),none⟩,
   ⟨some 11,.fad 3 (.tmp 1),none⟩,
   ⟨some 12,.ld false 1 (.tmp 11),none⟩,
   ⟨some 13,.fad 4 (.tmp 1),none⟩,
   ⟨some 14,.ld false 1 (.tmp 13),none⟩,
   ⟨some 15,.call 13 [(.tmp 14)],none⟩,
   ⟨some 16,.build [(.nils 1),(.nils 1),(.d (.int .i64 0)),(.d (.int .i64 0)),(.nils 1)] [(0,1,(.tmp 8)),(2,1,(.tmp 10)),(3,1,(.tmp 12)),(4,1,(.tmp 15))],none⟩,
   ⟨some 3,.alloc 2 [(.nils 1),(.nils 1),(.d (.int .i64 0)),(.d (.int .i64 0)),(.nils 1)],none⟩,
   ⟨none,.st 5 (.tmp 3) (.tmp 16),none⟩] [(0,3),(1,3),(2,3),(0,4),(1,4),(2,4),(0,5),(1,5),(2,5),(3,5),(4,5),(0,6),(1,6),(2,6),(3,6),(4,6),(0,7),(1,7),(2,7),(3,7),(4,7),(5,7),(6,7),(0,8),(1,8),(2,8),(3,8),(4,8),(5,8),(6,8),(3,9),(4,9),(5,9),(6,9),(0,11),(1,11),(2,11),(3,11),(4,11),(5,11),(6,11),(7,11),(8,11),(9,11),(10,11)])
  (.seq
  (.seq
   (.reg [] [⟨some 17,.fad 1 (.tmp 1),none⟩,
    ⟨some 18,.ld false 1 (.tmp 17),none⟩,
    ⟨some 19,.len (.tmp 18),none⟩,
    ⟨some 20,.mov (.cst (.d (.int .i64 0))),none⟩])
   (.post [2,3] [0,1,2,3,4]
   (.block 0
    (.keep [2,3,18,19,20] [0,1,2]
    (.loop
     (.post [2,3,18,19,20] [3,4]
     (.seq
      (.reg [] [⟨some 21,.cmp .lss (.tmp 20) (.tmp 19),none⟩])
      (.seq
      (.cond (.tmp 21)
       .skip
       (.exit 0))
      (.seq
       (.block 1
       (.seq
        (.reg [] [⟨some 22,.ixa 1 (.tmp 18) (.tmp 20),none⟩,
         ⟨some 23,.ld false 1 (.tmp 22),none⟩,
         ⟨some 5,.mov (.tmp 23),none⟩])
        (.regd [3,4] [⟨some 24,.fad 1 (.tmp 3),none⟩,
         ⟨some 25,.ld false 1 (.tmp 24),none⟩,
         ⟨some 26,.mov (.tmp 5),none⟩,
         ⟨some 27,.call 13 [(.tmp 26)],none⟩,
         ⟨some 28,.bsl 3 22 1 1 [(.slice 1 [])] [(0,(.tmp 27))],none⟩,
         ⟨some 29,.app 4 22 1 24 (.tmp 25) (.tmp 28),none⟩,
         ⟨some 30,.fad 1 (.tmp 3),none⟩,
         ⟨none,.st 1 (.tmp 30) (.tmp 29),none⟩] [(0,2),(1,2),(0,3),(1,3),(0,4),(1,4)])))
       (.reg [] [⟨some 31,.arith .add .i64 (.tmp 20) (.cst (.d (.int .i64 1))),none⟩,
        ⟨some 20,.mov (.tmp 31),none⟩]))))))))))
  (.seq
   (.reg [] [⟨some 32,.ld true 5 (.tmp 3),none⟩,
    ⟨none,.st 5 (.tmp 2) (.tmp 32),none⟩])
   .ret))))⟩
def s9 (t:Tn):Nat→St
 | 0=>⟨[(2,.ptr 1 0),(3,.ptr 2 0),(18,.d (.slice 1 (rws t.nz))),(19,.d (.int .i64 ((rws t.nz).length:Int))),(20,.d (.int .i64 (((0:Nat):Int))))],[.none,.box [.nils 1,.nils 1,.d (.int .i64 0),.d (.int .i64 0),.nils 1],.box [.d (.slice 1 (ints t.sg)),.nils 1,.d (.int .i64 t.mg),.d (.int .i64 t.mx),.d (.slice 1 (ints t.nt))],.none,.none]⟩
 | k+1=>⟨[(2,.ptr 1 0),(3,.ptr 2 0),(18,.d (.slice 1 (rws t.nz))),(19,.d (.int .i64 ((rws t.nz).length:Int))),(20,.d (.int .i64 (((k+1:Nat):Int))))],[.none,.box [.nils 1,.nils 1,.d (.int .i64 0),.d (.int .i64 0),.nils 1],.box [.d (.slice 1 (ints t.sg)),.sl 4 (rws (t.nz.take (k+1))).length,.d (.int .i64 t.mg),.d (.int .i64 t.mx),.d (.slice 1 (ints t.nt))],.none,.row 22 1 (rws (t.nz.take (k+1))) false]⟩
theorem rws_one {l:List (List Int)} {k:Nat} {r:List Int} (h:l[k]?=some r):rws (l.take (k+1))=rws (l.take k)++[.slice 1 (ints r)]:=by
 rw [take_one h]; unfold rws; rw [List.map_append]; rfl
theorem k9 {t:Tn} (h:t.ok):CallDet Try.prog 9 [.d t.d] [t.d]:=by
 have hn8:=h.n8
 have hp8:=h.p8
 have hp1:=h.p1
 have hnt:=h.nts
 have hl3:=rws_len t.nz
 have c13_1:=k13 t.sg (by omega)
 have c13_2:=k13 t.nt (by omega)
 refine call_of_vc (x:=jr9) (by kernel_rfl) rfl ?_
 refine Exists.intro _ (And.intro c13_1 ?_)
 refine Exists.intro _ (And.intro c13_2 ?_)
 rotate_left
 refine loop_st (s9 t) (fun k=>k≤t.nz.length) (fun k=>t.nz.length - k) 0 rfl (Nat.zero_le _) ?_
 intro k hk
 match k,hk with
 | 0,hk =>
  have hk:0≤t.nz.length:=hk
  have hb:=rws_len (t.nz.take (0))
  rw [List.length_take] at hb
  refine Exists.elim (get_lt t.nz (k:=0) (by omega)) fun r hr=>?_
  have hr1:=rws_at hr
  obtain ⟨hrl,hrb⟩:=h.rows r (List.mem_of_getElem? hr)
  have hl5:(ints r).length=r.length:=by simp [ints]
  have c13_3:=k13 r (by omega)
  have e:rws (t.nz.take (0+1))=[.slice 1 (ints r)]:=by rw [rws_one hr]; rfl
  have fin:∀ q:List Data,q=rws (t.nz.take (0+1))→∃ a':Nat,(a'≤t.nz.length∧t.nz.length - a' < t.nz.length - (0))∧(⟨[(2,.ptr 1 0),(3,.ptr 2 0),(18,.d (.slice 1 (rws t.nz))),(19,.d (.int .i64 ((rws t.nz).length:Int))),(20,.d (.int .i64 ((((0:Nat):Int)+1))))],[.none,.box [.nils 1,.nils 1,.d (.int .i64 0),.d (.int .i64 0),.nils 1],.box [.d (.slice 1 (ints t.sg)),.sl 4 q.length,.d (.int .i64 t.mg),.d (.int .i64 t.mx),.d (.slice 1 (ints t.nt))],.none,.row 22 1 q false]⟩:St)=s9 t a':=fun q e=>⟨0+1,⟨by omega,by omega⟩,by rw [e]; rfl⟩
  refine And.intro rfl ?_
  refine brk_lt (fun t1=>?_) (fun t1=>?_)
  refine ix_at hr1 ?_ ?_
  (show (0:Int)≤(↑(0:Nat):Int); omega)
  refine Exists.intro _ (And.intro c13_3 ?_)
  refine And.intro rfl ?_
  refine And.intro rfl ?_
  refine And.intro rfl ?_
  refine And.intro ?_ ?_
  refine And.intro ?_ ?_
  (show (1:Nat) * (24:Nat)≤(2:Nat) ^ (47:Nat); omega)
  (show (1:Nat)≤(2:Nat) ^ (47:Nat); omega)
  refine And.intro rfl ?_
  refine ar_add ?_ ?_
  refine And.intro ?_ ?_
  (show (-9223372036854775808:Int)≤(↑(0:Nat):Int)+(1:Int); omega)
  (show (↑(0:Nat):Int)+(1:Int)≤(9223372036854775807:Int); omega)
  rotate_left
  (exfalso; omega)
  all_goals exact fin _ e.symm
 | k+1,hk =>
  have hk:k+1≤t.nz.length:=hk
  have hb:=rws_len (t.nz.take (k+1))
  rw [List.length_take] at hb
  by_cases hkn:k+1 < t.nz.length
  ·refine Exists.elim (get_lt t.nz (k:=k+1) (by omega)) fun r hr=>?_
   have hr1:=rws_at hr
   obtain ⟨hrl,hrb⟩:=h.rows r (List.mem_of_getElem? hr)
   have hl5:(ints r).length=r.length:=by simp [ints]
   have c13_3:=k13 r (by omega)
   have e:rws (t.nz.take (k+1+1))=rws (t.nz.take (k+1))++[.slice 1 (ints r)]:=by rw [rws_one hr]
   have fin:∀ q:List Data,q=rws (t.nz.take (k+1+1))→∃ a':Nat,(a'≤t.nz.length∧t.nz.length - a' < t.nz.length - (k+1))∧(⟨[(2,.ptr 1 0),(3,.ptr 2 0),(18,.d (.slice 1 (rws t.nz))),(19,.d (.int .i64 ((rws t.nz).length:Int))),(20,.d (.int .i64 ((((k+1:Nat):Int)+1))))],[.none,.box [.nils 1,.nils 1,.d (.int .i64 0),.d (.int .i64 0),.nils 1],.box [.d (.slice 1 (ints t.sg)),.sl 4 q.length,.d (.int .i64 t.mg),.d (.int .i64 t.mx),.d (.slice 1 (ints t.nt))],.none,.row 22 1 q false]⟩:St)=s9 t a':=fun q e=>⟨k+1+1,⟨by omega,by omega⟩,by rw [e]; rfl⟩
   refine And.intro rfl ?_
   refine brk_lt (fun t1=>?_) (fun t1=>?_)
   refine ix_at hr1 ?_ ?_
   (show (0:Int)≤(↑(k+(1:Nat)):Int); omega)
   refine Exists.intro _ (And.intro c13_3 ?_)
   refine And.intro rfl ?_
   refine And.intro rfl ?_
   refine And.intro rfl ?_
   refine And.intro ?_ ?_
   refine And.intro ?_ ?_
   exact rfl
   refine And.intro ?_ ?_
   exact rfl
   refine And.intro ?_ ?_
   exact rfl
   refine And.intro ?_ ?_
   (show (List.length (rws (List.take (k+(1:Nat)) (Tn.nz t)))+(1:Nat)) * (24:Nat)≤(2:Nat) ^ (47:Nat); omega)
   (show List.length (rws (List.take (k+(1:Nat)) (Tn.nz t)))+(1:Nat)≤(2:Nat) ^ (47:Nat); omega)
   refine And.intro rfl ?_
   refine ar_add ?_ ?_
   refine And.intro ?_ ?_
   (show (-9223372036854775808:Int)≤(↑(k+(1:Nat)):Int)+(1:Int); omega)
   (show (↑(k+(1:Nat)):Int)+(1:Int)≤(9223372036854775807:Int); omega)
   rotate_left
   (exfalso; omega)
   all_goals exact fin _ e.symm
  ·have e:rws (t.nz.take (k+1))=rws t.nz:=by rw [List.take_of_length_le (by omega)]
   have fin:∀ q:List Data,q=rws t.nz→resV [.agg [.slice 1 (ints t.sg),.slice 1 q,.int .i64 t.mg,.int .i64 t.mx,.slice 1 (ints t.nt)]]=resV [t.d]:=fun q e=>by rw [e]; rfl
   refine And.intro rfl ?_
   refine brk_lt (fun t1=>?_) (fun t1=>?_)
   (exfalso; omega)
   refine And.intro rfl ?_
   rotate_left
   all_goals exact fin _ e
def minTo (A B:List Int):Nat→List Int
 | 0=>A
 | j+1=>(minTo A B j).set j (min (A[j]?.getD 0) (B[j]?.getD 0))
theorem minTo_len (A B:List Int):∀ j,(minTo A B j).length=A.length
 | 0=>rfl
 | j+1=>by rw [minTo,List.length_set]; exact minTo_len A B j
theorem minTo_hi (A B:List Int):∀ {j i:Nat},j≤i→(minTo A B j)[i]?=A[i]?
 | 0,_,_=>rfl
 | j+1,i,h=>by
  rw [minTo,List.getElem?_set_ne (by omega)]; exact minTo_hi A B (by omega)
theorem minTo_lo (A B:List Int):∀ {j i:Nat},i < j→i < A.length→(minTo A B j)[i]?=some (min (A[i]?.getD 0) (B[i]?.getD 0))
 | j+1,i,h,hl=>by
  rw [minTo]
  by_cases e:j=i
  ·subst e
   rw [List.getElem?_set_self (by rw [minTo_len]; exact hl)]
  ·rw [List.getElem?_set_ne e]; exact minTo_lo A B (by omega) hl
def robT (t:Tn):Nat→List Int
 | 0=>allF t 0
 | k+1=>minTo (robT t k) (allF t k) t.sg.length
theorem allF_len (t:Tn) (p:Nat):(allF t p).length=t.sg.length:=carT_len t p _
theorem robT_len (t:Tn):∀ k,(robT t k).length=t.sg.length
 | 0=>allF_len t 0
 | k+1=>by rw [robT,minTo_len]; exact robT_len t k
def jr10:AFun:=⟨43,2,[.tmp 2,.tmp 3],
 (.seq
 (.reg [0] [⟨some 1,.cbx 0 5 (.tmp 0),none⟩,
  ⟨some 2,.mov (.cst (.nils 1)),none⟩,
  ⟨some 3,.mov (.cst (.d (.int .i64 0))),none⟩])
 (.seq
  (.seq
  (.reg [] [⟨some 9,.ld true 5 (.tmp 1),none⟩,
   ⟨some 10,.call 27 [(.tmp 9)],none⟩,
   ⟨some 4,.mov (.tmp 10),none⟩])
  (.seq
   (.reg [] [⟨some 11,.mov (.tmp 4),none⟩,
    ⟨some 12,.cmp .neq (.tmp 11) (.cst (.d (.int .i64 0))),none⟩])
   (.cond (.tmp 12)
   (.seq
    (.reg [] [⟨some 13,.mov (.tmp 4),none⟩,
     ⟨some 2,.mov (.cst (.nils 1)),none⟩,
     ⟨some 3,.mov (.tmp 13),none⟩])
    .ret)
   .skip)))
  (.seq
  (.reg [] [⟨some 14,.ld true 5 (.tmp 1),none⟩,
   ⟨some 15,.calln 1 3 1 26 [(.tmp 14),(.cst (.d (.int .i64 0)))],none⟩,
   ⟨some 5,.mov (.tmp 15),none⟩])
  (.seq
   (.seq
   (.reg [] [⟨some 16,.fad 1 (.tmp 1),none⟩,
    ⟨some 17,.ld false 1 (.tmp 16),none⟩,
    ⟨some 18,.len (.tmp 17),none⟩,
    ⟨some 19,.mov (.cst (.d (.int .i64 0))),none⟩])
   (.post [5] [0]
    (.block 0
    (.keep [1,5,18,19] [0]
     (.loop
     (.post [1,5,18,19] []
      (.seq
      (.reg [] [⟨some 20,.cmp .lss (.tmp 19) (.tmp 18),none⟩])
      (.seq
       (.cond (.tmp 20)
       .skip
       (.exit 0))
       (.seq
       (.block 1
        (.seq
        (.reg [] [⟨some 21,.mov (.tmp 19),none⟩,
         ⟨some 6,.mov (.tmp 21),none⟩])
        (.seq
         (.reg [] [⟨some 22,.ld true 5 (.tmp 1),none⟩,
          ⟨some 23,.mov (.tmp 6),none⟩,
          ⟨some 24,.call 26 [(.tmp 22),(.tmp 23)],none⟩,
          ⟨some 25,.len (.tmp 24),none⟩,
          ⟨some 26,.mov (.cst (.d (.int .i64 0))),none⟩])
         (.post [1,5,18,19] [0]
         (.block 2
          (.keep [1,5,18,19,24,25,26] [0]
          (.loop
           (.post [1,5,18,19,24,25,26] []
           (.seq
            (.reg [] [⟨some 27,.cmp .lss (.tmp 26) (.tmp 25),none⟩])
            (.seq
            (.cond (.tmp 27)
             .skip
             (.exit 2))
            (.seq
             (.block 3
             (.seq
              (.reg [] [⟨some 28,.mov (.tmp 26),none⟩,
               ⟨some 29,.ixa 1 (.tmp 24) (.tmp 26),none⟩,
               ⟨some 30,.ld false 1 (.tmp 29),none⟩,
               ⟨some 7,.mov (.tmp 28),none⟩,
               ⟨some 8,.mov (.tmp 30),none⟩])
              (.reg [] [⟨some 31,.mov (.tmp 5),none⟩,
               ⟨some 32,.mov (.tmp 7),none⟩,
               ⟨some 33,.mov (.tmp 5),none⟩,
               ⟨some 34,.mov (.tmp 7),none⟩,
               ⟨some 35,.ixa 1 (.tmp 33) (.tmp 34),none⟩,
               ⟨some 36,.ld false 1 (.tmp 35),none⟩,
               ⟨some 37,.mov (.tmp 8),none⟩,
               ⟨some 38,.mini (.tmp 36) (.tmp 37),none⟩,
               ⟨some 39,.ixa 1 (.tmp 31) (.tmp 32),none⟩,
               ⟨none,.st 1 (.tmp 39) (.tmp 38),none⟩])))
             (.reg [] [⟨some 40,.arith .add .i64 (.tmp 26) (.cst (.d (.int .i64 1))),none⟩,
              ⟨some 26,.mov (.tmp 40),none⟩]))))))))))))
       (.reg [] [⟨some 41,.arith .add .i64 (.tmp 19) (.cst (.d (.int .i64 1))),none⟩,
        ⟨some 19,.mov (.tmp 41),none⟩]))))))))))
   (.seq
   (.reg [] [⟨some 42,.mov (.tmp 5),none⟩,
    ⟨some 2,.mov (.tmp 42),none⟩,
    ⟨some 3,.mov (.cst (.d (.int .i64 0))),none⟩])
   .ret)))))⟩
theorem k10 {t:Tn} (h:t.ok):CallDet Try.prog 10 [.d t.d] [.slice 1 (ints (robT t t.nz.length)),.int .i64 0]:=by
 have hn8:=h.n8
 have hp8:=h.p8
 have hp1:=h.p1
 have hl3:=rws_len t.nz
 have c27_:=k27 h
 have c26r_:CallRow Try.prog 26 [.d t.d,.d (.int .i64 0)] 3 1 (ints (allF t 0)):=k26r h (p:=0) (by omega)
 refine call_of_vc (x:=jr10) (by kernel_rfl) rfl ?_
 refine Exists.intro _ (And.intro c27_ ?_)
 refine And.intro rfl ?_
 refine Exists.intro _ (And.intro (c26r_) ?_)
 rotate_left
 refine loop_st (fun k:Nat=>⟨[(1,.ptr 0 0),(5,.sl 1 (ints (robT t k)).length),(18,.d (.int .i64 ((rws t.nz).length:Int))),(19,.d (.int .i64 k))],[.cbox [.slice 1 (ints t.sg),.slice 1 (rws t.nz),.int .i64 t.mg,.int .i64 t.mx,.slice 1 (ints t.nt)],.row 3 1 (ints (robT t k)) false]⟩) (fun k=>k≤t.nz.length) (fun k=>t.nz.length - k) 0 rfl (Nat.zero_le _) ?_
 intro k hk
 have hk:k≤t.nz.length:=hk
 dsimp only
 by_cases hkn:k < t.nz.length
 ·have hA:(robT t k).length=t.sg.length:=robT_len t k
  have hB:(allF t k).length=t.sg.length:=allF_len t k
  have c26_:=k26 h hkn
  have fin:∀ q:List Int,q=minTo (robT t k) (allF t k) t.sg.length→∃ a':Nat,(a'≤t.nz.length∧t.nz.length - a' < t.nz.length - k)∧(⟨[(1,.ptr 0 0),(5,.sl 1 (ints (q)).length),(18,.d (.int .i64 ((rws t.nz).length:Int))),(19,.d (.int .i64 ((k:Int)+1)))],[.cbox [.slice 1 (ints t.sg),.slice 1 (rws t.nz),.int .i64 t.mg,.int .i64 t.mx,.slice 1 (ints t.nt)],.row 3 1 (ints (q)) false]⟩:St)=⟨[(1,.ptr 0 0),(5,.sl 1 (ints (robT t a')).length),(18,.d (.int .i64 ((rws t.nz).length:Int))),(19,.d (.int .i64 (a':Nat)))],[.cbox [.slice 1 (ints t.sg),.slice 1 (rws t.nz),.int .i64 t.mg,.int .i64 t.mx,.slice 1 (ints t.nt)],.row 3 1 (ints (robT t a')) false]⟩:=fun q e=>⟨k+1,⟨by omega,by omega⟩,by rw [e]; rfl⟩
  generalize robT t k=A at *
  generalize allF t k=B at *
  have hBl:(ints B).length=B.length:=by simp [ints]
  refine And.intro rfl ?_
  refine brk_lt (fun t1=>?_) (fun t1=>?_)
  refine Exists.intro _ (And.intro c26_ ?_)
  rotate_left
  (exfalso; omega)
  refine loop_st (fun j:Nat=>⟨[(1,.ptr 0 0),(5,.sl 1 ((ints (minTo A B j)).length)),(18,.d (.int .i64 ((rws t.nz).length:Int))),(19,.d (.int .i64 k)),(24,.d (.slice 1 (ints B))),(25,.d (.int .i64 ((ints B).length:Int))),(26,.d (.int .i64 j))],[.cbox [.slice 1 (ints t.sg),.slice 1 (rws t.nz),.int .i64 t.mg,.int .i64 t.mx,.slice 1 (ints t.nt)],.row 3 1 (ints (minTo A B j)) false]⟩) (fun j=>j≤t.sg.length) (fun j=>t.sg.length - j) 0 rfl (Nat.zero_le _) ?_
  intro j hj
  have hj:j≤t.sg.length:=hj
  dsimp only
  have hMl:(ints (minTo A B j)).length=A.length:=by rw [ints_len]; exact minTo_len A B j
  by_cases hjn:j < t.sg.length
  ·refine Exists.elim (get_lt A (k:=j) (by omega)) fun a ha=>?_
   refine Exists.elim (get_lt B (k:=j) (by omega)) fun b hb=>?_
   have hM:(ints (minTo A B j))[((j:Int)).toNat]?=some (.int .i64 a):=ints_get (by rw [minTo_hi A B (Nat.le_refl j)]; exact ha)
   have hb1:(ints B)[((j:Int)).toNat]?=some (.int .i64 b):=ints_get hb
   have es:(ints (minTo A B j)).set ((j:Int)).toNat (.int .i64 (min a b))=ints (minTo A B (j+1)):=by
    show (ints (minTo A B j)).set j _=ints ((minTo A B j).set j (min (A[j]?.getD 0) (B[j]?.getD 0)))
    rw [ha,hb]
    unfold ints; rw [List.map_set]; rfl
   have fin2:∀ (M:List Data) (l:Nat),M=ints (minTo A B (j+1))→l=(ints (minTo A B j)).length→∃ a':Nat,(a'≤t.sg.length∧t.sg.length - a' < t.sg.length - j)∧(⟨[(1,.ptr 0 0),(5,.sl 1 (l)),(18,.d (.int .i64 ((rws t.nz).length:Int))),(19,.d (.int .i64 k)),(24,.d (.slice 1 (ints B))),(25,.d (.int .i64 ((ints B).length:Int))),(26,.d (.int .i64 ((j:Int)+1)))],[.cbox [.slice 1 (ints t.sg),.slice 1 (rws t.nz),.int .i64 t.mg,.int .i64 t.mx,.slice 1 (ints t.nt)],.row 3 1 (M) false]⟩:St)=⟨[(1,.ptr 0 0),(5,.sl 1 ((ints (minTo A B a')).length)),(18,.d (.int .i64 ((rws t.nz).length:Int))),(19,.d (.int .i64 k)),(24,.d (.slice 1 (ints B))),(25,.d (.int .i64 ((ints B).length:Int))),(26,.d (.int .i64 (a':Nat)))],[.cbox [.slice 1 (ints t.sg),.slice 1 (rws t.nz),.int .i64 t.mg,.int .i64 t.mx,.slice 1 (ints t.nt)],.row 3 1 (ints (minTo A B a')) false]⟩:=fun M l e e2=>⟨j+1,⟨by omega,by omega⟩,by rw [e,e2,show (ints (minTo A B j)).length=(ints (minTo A B (j+1))).length by rw [ints_len,ints_len,minTo_len,minTo_len]]; rfl⟩
   refine And.intro rfl ?_
   refine brk_lt (fun t2=>?_) (fun t2=>?_)
   refine ix_at hb1 ?_ ?_
   (show (0:Int)≤(↑j:Int); omega)
   refine And.intro ?_ ?_
   refine And.intro ?_ ?_
   exact rfl
   refine And.intro ?_ ?_
   exact rfl
   refine And.intro ?_ ?_
   (show (0:Int)≤(↑j:Int); omega)
   (show (↑j:Int) < (↑(List.length (ints (minTo A B j))):Int); omega)
   refine And.intro rfl ?_
   refine Exists.intro _ (And.intro hM ?_)
   refine And.intro rfl ?_
   refine And.intro ?_ ?_
   refine And.intro ?_ ?_
   exact rfl
   refine And.intro ?_ ?_
   exact rfl
   refine And.intro ?_ ?_
   (show (0:Int)≤(↑j:Int); omega)
   (show (↑j:Int) < (↑(List.length (ints (minTo A B j))):Int); omega)
   refine Exists.intro _ (Exists.intro (Data.int IntKind.i64 (min a b)) (And.intro (And.intro ?_ (And.intro hM (And.intro rfl (And.intro ?_ (And.intro rfl rfl))))) ?_))
   exact rfl
   (show (0:Nat)+(1:Nat)≤(1:Nat); omega)
   refine ar_add ?_ ?_
   refine And.intro ?_ ?_
   (show (-9223372036854775808:Int)≤(↑j:Int)+(1:Int); omega)
   (show (↑j:Int)+(1:Int)≤(9223372036854775807:Int); omega)
   rotate_left
   (exfalso; omega)
   all_goals exact fin2 _ _ es rfl
  ·have e7:j=t.sg.length:=by omega
   subst e7
   refine And.intro rfl ?_
   refine brk_lt (fun t2=>?_) (fun t2=>?_)
   (exfalso; omega)
   refine ar_add ?_ ?_
   refine And.intro ?_ ?_
   (show (-9223372036854775808:Int)≤(↑k:Int)+(1:Int); omega)
   (show (↑k:Int)+(1:Int)≤(9223372036854775807:Int); omega)
   rotate_left
   all_goals exact fin _ rfl
 ·have e7:k=t.nz.length:=by omega
  subst e7
  refine And.intro rfl ?_
  refine brk_lt (fun t1=>?_) (fun t1=>?_)
  (exfalso; omega)
  refine And.intro rfl ?_
  exact rfl
end Vc
set_option maxRecDepth 10000
set_option maxHeartbeats 4000000
namespace Vc
open Go Go.Proofs
def smF (t:Tn) (p:Nat) (l:List Int):Nat→Int
 | 0=>0
 | k+1=>smF t p l k+(pwA t p k (l[k]?.getD 0).toNat).1
def fitTo (t:Tn) (p:Nat) (l:List Int):Nat→Bool
 | 0=>true
 | k+1=>fitTo t p l k&&decide (l[k]?.getD 0≤(carry t p k:Int))
def fitF (t:Tn) (p:Nat) (l:List Int):Bool:=fitTo t p l t.sg.length
theorem fit_no {t:Tn} {p:Nat} {l:List Int} {k:Nat} (h:fitTo t p l k=false):∀ j,fitTo t p l (k+j)=false
 | 0=>h
 | j+1=>by
  show (fitTo t p l (k+j)&&_)=false
  rw [fit_no h j]; rfl
theorem fit_all {t:Tn} {p:Nat} {l:List Int}:∀ {k:Nat},(∀ c,c < k→l[c]?.getD 0≤(carry t p c:Int))→fitTo t p l k=true
 | 0,_=>rfl
 | k+1,h=>by
  show (fitTo t p l k&&_)=true
  rw [fit_all fun c hc=>h c (by omega),decide_eq_true (h k (by omega))]; rfl
theorem smF_bd {t:Tn} (h:t.ok) {p:Nat} {l:List Int} (hp:p < t.nz.length) (hb:∀ x∈l,0≤x∧x≤6):∀ {k:Nat},k≤t.sg.length→0≤smF t p l k∧smF t p l k≤7300000000 * (k:Int)
 | 0,_=>⟨Int.le_refl 0,Int.le_refl 0⟩
 | k+1,hk=>by
  have ih:=smF_bd h hp hb (k:=k) (by omega)
  obtain ⟨_,_,_,_,_,bx,bs⟩:=h.cell hp (show k < t.sg.length by omega)
  have h6:(l[k]?.getD 0).toNat≤6:=by
   cases e:l[k]? with
   | none=>show (0:Int).toNat≤6; decide
   | some x=>show x.toNat≤6; have:=hb x (List.mem_of_getElem? e); omega
  have h2:=pw_le (b:=(l[k]?.getD 0).toNat) h.mgb bx bs h6
  have e:smF t p l (k+1)=smF t p l k+(pw t.mg (at2 t p k) (at1 t k) (l[k]?.getD 0).toNat).1:=rfl
  rw [e]; omega
def jr12:AFun:=⟨57,2,[.tmp 6,.tmp 7],
 (.seq
 (.reg [0] [⟨some 3,.cbx 0 5 (.tmp 0),none⟩,
  ⟨some 6,.mov (.cst (.d (.int .i64 0))),none⟩,
  ⟨some 7,.mov (.cst (.d (.int .i64 0))),none⟩])
 (.seq
  (.seq
  (.regd [1] [⟨some 14,.ld true 5 (.tmp 3),none⟩,
   ⟨some 15,.mov (.tmp 1),none⟩,
   ⟨some 16,.call 25 [(.tmp 14),(.tmp 15)],none⟩,
   ⟨some 17,.mov (.tmp 2),none⟩,
   ⟨some 18,.len (.tmp 17),none⟩,
   ⟨some 19,.fad 0 (.tmp 3),none⟩,
   ⟨some 20,.ld false 1 (.tmp 19),none⟩,
   ⟨some 21,.len (.tmp 20),none⟩,
   ⟨some 22,.cmp .neq (.tmp 18) (.tmp 21),none⟩,
   ⟨some 23,.call 29 [(.tmp 22),(.cst (.d (.int .i64 2)))],none⟩,
   ⟨some 24,.mov (.tmp 2),none⟩,
   ⟨some 25,.call 30 [(.tmp 24),(.cst (.d (.int .i64 0))),(.cst (.d (.int .i64 6)))],none⟩,
   ⟨some 26,.bsl 1 30 1 3 [(.int .i64 0),(.int .i64 0),(.int .i64 0)] [(0,(.tmp 16)),(1,(.tmp 23)),(2,(.tmp 25))],none⟩,
   ⟨some 27,.call 28 [(.tmp 26)],none⟩,
   ⟨some 8,.mov (.tmp 27),none⟩] [(0,1),(0,3),(1,3),(2,3),(0,4),(1,4),(2,4),(0,5),(1,5),(2,5),(3,5),(4,5),(0,6),(1,6),(2,6),(3,6),(4,6),(0,7),(1,7),(2,7),(3,7),(4,7),(0,8),(1,8),(2,8),(0,10),(1,10),(2,10),(3,10),(4,10),(5,10),(6,10),(7,10),(8,10),(9,10)])
  (.seq
   (.reg [] [⟨some 28,.mov (.tmp 8),none⟩,
    ⟨some 29,.cmp .neq (.tmp 28) (.cst (.d (.int .i64 0))),none⟩])
   (.cond (.tmp 29)
   (.seq
    (.reg [] [⟨some 30,.mov (.tmp 8),none⟩,
     ⟨some 6,.mov (.cst (.d (.int .i64 0))),none⟩,
     ⟨some 7,.mov (.tmp 30),none⟩])
    .ret)
   .skip)))
  (.seq
  (.reg [] [⟨some 9,.mov (.cst (.d (.int .i64 0))),none⟩])
  (.seq
   (.seq
   (.reg [] [⟨some 31,.mov (.tmp 2),none⟩,
    ⟨some 32,.len (.tmp 31),none⟩,
    ⟨some 33,.mov (.cst (.d (.int .i64 0))),none⟩])
   (.post [9] [0,1]
    (.block 0
    (.keep [1,3,9,31,32,33] [0,1]
     (.loop
     (.post [1,3,9,31,32,33] []
      (.seq
      (.reg [] [⟨some 34,.cmp .lss (.tmp 33) (.tmp 32),none⟩])
      (.seq
       (.cond (.tmp 34)
       .skip
       (.exit 0))
       (.seq
       (.block 1
        (.seq
        (.reg [] [⟨some 35,.mov (.tmp 33),none⟩,
         ⟨some 36,.ixa 1 (.tmp 31) (.tmp 33),none⟩,
         ⟨some 37,.ld false 1 (.tmp 36),none⟩,
         ⟨some 10,.mov (.tmp 35),none⟩,
         ⟨some 11,.mov (.tmp 37),none⟩])
        (.seq
         (.seq
         (.reg [] [⟨some 38,.mov (.tmp 11),none⟩,
          ⟨some 39,.ld true 5 (.tmp 3),none⟩,
          ⟨some 40,.mov (.tmp 1),none⟩,
          ⟨some 41,.mov (.tmp 10),none⟩,
          ⟨some 42,.call 31 [(.tmp 39),(.tmp 40),(.tmp 41)],none⟩,
          ⟨some 43,.cmp .gtr (.tmp 38) (.tmp 42),none⟩])
         (.cond (.tmp 43)
          (.seq
          (.reg [] [⟨some 6,.mov (.cst (.d (.int .i64 0))),none⟩,
           ⟨some 7,.mov (.cst (.d (.int .i64 20))),none⟩])
          .ret)
          .skip))
         (.seq
         (.reg [] [⟨some 45,.ld true 5 (.tmp 3),none⟩,
          ⟨some 46,.mov (.tmp 1),none⟩,
          ⟨some 47,.mov (.tmp 10),none⟩,
          ⟨some 48,.mov (.tmp 11),none⟩,
          ⟨some 49,.call 32 [(.tmp 45),(.tmp 46),(.tmp 47),(.tmp 48)],none⟩,
          ⟨some 44,.mov (.tmp 49),none⟩,
          ⟨some 50,.ext 0 (.tmp 44),none⟩,
          ⟨some 51,.ext 1 (.tmp 44),none⟩,
          ⟨some 12,.mov (.tmp 50),none⟩,
          ⟨some 13,.mov (.tmp 51),none⟩])
         (.reg [] [⟨some 52,.mov (.tmp 9),none⟩,
          ⟨some 53,.mov (.tmp 12),none⟩,
          ⟨some 54,.arith .add .i64 (.tmp 52) (.tmp 53),none⟩,
          ⟨some 9,.mov (.tmp 54),none⟩])))))
       (.reg [] [⟨some 55,.arith .add .i64 (.tmp 33) (.cst (.d (.int .i64 1))),none⟩,
        ⟨some 33,.mov (.tmp 55),none⟩]))))))))))
   (.seq
   (.reg [] [⟨some 56,.mov (.tmp 9),none⟩,
    ⟨some 6,.mov (.tmp 56),none⟩,
    ⟨some 7,.mov (.cst (.d (.int .i64 0))),none⟩])
   .ret)))))⟩
theorem k12 {t : Tn} (h : t.ok) {p : Nat} (hp : p < t.nz.length) (l : List Int) (hl : l.length = t.sg.length) (hb : ∀ x ∈ l, 0 ≤ x ∧ x ≤ 6) :
  CallDet Try.prog 12 [.d t.d,.d (.int .i64 p),.d (.slice 1 (ints l))] [.int .i64 (bif fitF t p l then smF t p l t.sg.length else 0),.int .i64 (bif fitF t p l then 0 else 20)]:=by
 have hn8:=h.n8
 have hl1:(ints l).length=l.length:=by simp [ints]
 have hl2:(ints t.sg).length=t.sg.length:=by simp [ints]
 have c25_:=k25 h hp
 have c29_1:CallDet Try.prog 29 [.d (.bool (((ints l).length:Int) != ((ints t.sg).length:Int))),.d (.int .i64 2)] [.int .i64 0]:=z29 (by rw [show (ints l).length=(ints t.sg).length by omega]; simp)
 have c30_1:CallDet Try.prog 30 [.d (.slice 1 (ints l)),.d (.int .i64 0),.d (.int .i64 6)] [.int .i64 0]:=by
  have h2:=t30 l 0 6 (by omega)
  rw [rngs_of hb] at h2; exact h2
 have c28_3:CallDet Try.prog 28 [.d (.slice 1 [.int .i64 0,.int .i64 0,.int .i64 0])] [.int .i64 0]:=f3 0 0 0
 refine call_of_vc (x:=jr12) (by kernel_rfl) rfl ?_
 have fin:∀ b v,fitF t p l=b→v=smF t p l t.sg.length→resV [.int .i64 (bif b then v else 0),.int .i64 (bif b then 0 else 20)]=resV [.int .i64 (bif fitF t p l then smF t p l t.sg.length else 0),.int .i64 (bif fitF t p l then 0 else 20)]:=fun b v e e2=>by rw [e,e2]
 refine Exists.intro _ (And.intro c25_ ?_)
 refine And.intro rfl ?_
 refine Exists.intro _ (And.intro c29_1 ?_)
 refine Exists.intro _ (And.intro c30_1 ?_)
 refine And.intro rfl ?_
 refine And.intro rfl ?_
 refine Exists.intro _ (And.intro c28_3 ?_)
 refine And.intro rfl ?_
 rotate_left
 refine loop_st (fun k:Nat=>⟨[(1,.d (.int .i64 p)),(3,.ptr 0 0),(9,.d (.int .i64 (smF t p l k))),(31,.d (.slice 1 (ints l))),(32,.d (.int .i64 ((ints l).length:Int))),(33,.d (.int .i64 k))],[.cbox [.slice 1 (ints t.sg),.slice 1 (rws t.nz),.int .i64 t.mg,.int .i64 t.mx,.slice 1 (ints t.nt)],.none]⟩) (fun k=>k≤t.sg.length∧fitTo t p l k=true) (fun k=>t.sg.length - k) 0 rfl ⟨Nat.zero_le _,rfl⟩ ?_
 intro k hk
 obtain ⟨hk,hf⟩:=hk
 dsimp only
 by_cases hkn:k < t.sg.length
 ·refine Exists.elim (get_lt l (k:=k) (by omega)) fun x hx=>?_
  have hx1:(ints l)[((k:Int)).toNat]?=some (.int .i64 x):=ints_get hx
  have bx:=hb x (List.mem_of_getElem? hx)
  have bs:=smF_bd h hp hb hk
  have bs2:=smF_bd h hp hb (k:=k+1) hkn
  have c31_:=k31 h hp hkn
  have ex:((x.toNat:Nat):Int)=x:=by omega
  have c32_:CallDet Try.prog 32 [.d t.d,.d (.int .i64 p),.d (.int .i64 k),.d (.int .i64 x)] [.int .i64 (pwA t p k x.toNat).1,.bool (pwA t p k x.toNat).2]:=by
   have h2:=k32 h hp hkn (b:=x.toNat) (by omega)
   rw [ex] at h2; exact h2
  have hgx:l[k]?.getD 0=x:=by rw [hx]; rfl
  have es:smF t p l (k+1)=smF t p l k+(pwA t p k x.toNat).1:=by show _+(pwA t p k (l[k]?.getD 0).toNat).1=_; rw [hgx]
  have ef:fitTo t p l (k+1)=decide (x≤(carry t p k:Int)):=by show (fitTo t p l k&&decide (l[k]?.getD 0≤(carry t p k:Int)))=_; rw [hf,hgx]; rfl
  rw [es] at bs2
  have fin2:x≤(carry t p k:Int)→∃ a':Nat,((a'≤t.sg.length∧fitTo t p l a'=true)∧t.sg.length - a' < t.sg.length - k)∧(⟨[(1,.d (.int .i64 p)),(3,.ptr 0 0),(9,.d (.int .i64 (smF t p l k+(pwA t p k x.toNat).1))),(31,.d (.slice 1 (ints l))),(32,.d (.int .i64 ((ints l).length:Int))),(33,.d (.int .i64 ((k:Int)+1)))],[.cbox [.slice 1 (ints t.sg),.slice 1 (rws t.nz),.int .i64 t.mg,.int .i64 t.mx,.slice 1 (ints t.nt)],.none]⟩:St)=⟨[(1,.d (.int .i64 p)),(3,.ptr 0 0),(9,.d (.int .i64 (smF t p l a'))),(31,.d (.slice 1 (ints l))),(32,.d (.int .i64 ((ints l).length:Int))),(33,.d (.int .i64 (a':Nat)))],[.cbox [.slice 1 (ints t.sg),.slice 1 (rws t.nz),.int .i64 t.mg,.int .i64 t.mx,.slice 1 (ints t.nt)],.none]⟩:=fun e=>⟨k+1,⟨⟨by omega,by rw [ef,decide_eq_true e]⟩,by omega⟩,by rw [es]; rfl⟩
  have fin3:¬ x≤(carry t p k:Int)→fitF t p l=false:=fun e=>by
   have h2:=fit_no (t:=t) (p:=p) (l:=l) (k:=k+1) (by rw [ef,decide_eq_false e]) (t.sg.length - (k+1))
   rw [show k+1+(t.sg.length - (k+1))=t.sg.length by omega] at h2; exact h2
  generalize smF t p l k=s at *
  generalize carry t p k=w at *
  generalize pwA t p k x.toNat=z at *
  by_cases hw:x≤(w:Int)
  ·refine And.intro rfl ?_
   refine brk_lt (fun t1=>?_) (fun t1=>?_)
   refine ix_at hx1 ?_ ?_
   (show (0:Int)≤(↑k:Int); omega)
   refine Exists.intro _ (And.intro c31_ ?_)
   refine And.intro rfl ?_
   refine brk_lt (fun t2=>?_) (fun t2=>?_)
   (exfalso; omega)
   refine Exists.intro _ (And.intro c32_ ?_)
   refine ar_add ?_ ?_
   refine And.intro ?_ ?_
   (show (-9223372036854775808:Int)≤s+Prod.fst z; omega)
   (show s+Prod.fst z≤(9223372036854775807:Int); omega)
   refine ar_add ?_ ?_
   refine And.intro ?_ ?_
   (show (-9223372036854775808:Int)≤(↑k:Int)+(1:Int); omega)
   (show (↑k:Int)+(1:Int)≤(9223372036854775807:Int); omega)
   rotate_left
   (exfalso; omega)
   all_goals exact fin2 hw
  ·refine And.intro rfl ?_
   refine brk_lt (fun t1=>?_) (fun t1=>?_)
   refine ix_at hx1 ?_ ?_
   (show (0:Int)≤(↑k:Int); omega)
   refine Exists.intro _ (And.intro c31_ ?_)
   refine And.intro rfl ?_
   refine brk_lt (fun t2=>?_) (fun t2=>?_)
   rotate_left
   (exfalso; omega)
   (exfalso; omega)
   all_goals exact fin false (smF t p l t.sg.length) (fin3 hw) rfl
 ·have e7:k=t.sg.length:=by omega
  subst e7
  refine And.intro rfl ?_
  refine brk_lt (fun t1=>?_) (fun t1=>?_)
  (exfalso; omega)
  rotate_left
  all_goals exact fin true _ hf rfl
def jr11:AFun:=⟨33,1,[.tmp 2],
 (.seq
 (.reg [] [⟨some 2,.mov (.cst (.d (.int .i64 0))),none⟩])
 (.seq
  (.seq
  (.reg [0] [⟨some 6,.mov (.tmp 0),none⟩,
   ⟨some 7,.len (.tmp 6),none⟩,
   ⟨some 8,.cmp .eql (.tmp 7) (.cst (.d (.int .i64 0))),none⟩,
   ⟨some 9,.call 22 [(.tmp 8),(.cst (.d (.int .i64 12)))],none⟩,
   ⟨some 10,.mov (.tmp 0),none⟩,
   ⟨some 11,.len (.tmp 10),none⟩,
   ⟨some 12,.cmp .gtr (.tmp 11) (.cst (.d (.int .i64 8))),none⟩,
   ⟨some 13,.call 22 [(.tmp 12),(.cst (.d (.int .i64 5)))],none⟩,
   ⟨some 14,.bsl 0 3 1 2 [(.int .i64 0),(.int .i64 0)] [(0,(.tmp 9)),(1,(.tmp 13))],none⟩,
   ⟨some 15,.call 21 [(.tmp 14)],none⟩,
   ⟨some 3,.mov (.tmp 15),none⟩])
  (.seq
   (.reg [] [⟨some 16,.mov (.tmp 3),none⟩,
    ⟨some 17,.cmp .neq (.tmp 16) (.cst (.d (.int .i64 0))),none⟩])
   (.cond (.tmp 17)
   (.seq
    (.reg [] [⟨some 18,.mov (.tmp 3),none⟩,
     ⟨some 2,.mov (.tmp 18),none⟩])
    .ret)
   .skip)))
  (.seq
  (.seq
   (.reg [] [⟨some 4,.mov (.cst (.d (.int .i64 0))),none⟩])
   (.post [] [0]
   (.block 0
    (.keep [0,4] [0]
    (.loop
     (.post [0,4] []
     (.seq
      (.seq
      (.reg [] [⟨some 19,.mov (.tmp 4),none⟩,
       ⟨some 20,.mov (.tmp 0),none⟩,
       ⟨some 21,.len (.tmp 20),none⟩,
       ⟨some 22,.cmp .lss (.tmp 19) (.tmp 21),none⟩])
      (.cond (.tmp 22)
       .skip
       (.exit 0)))
      (.seq
      (.block 1
       (.seq
       (.reg [] [⟨some 25,.mov (.tmp 0),none⟩,
        ⟨some 26,.mov (.tmp 4),none⟩,
        ⟨some 27,.ixa 1 (.tmp 25) (.tmp 26),none⟩,
        ⟨some 28,.ld false 1 (.tmp 27),none⟩,
        ⟨some 29,.call 23 [(.tmp 28),(.cst (.d (.int .i64 0))),(.cst (.d (.int .i64 6)))],none⟩,
        ⟨some 5,.mov (.tmp 29),none⟩])
       (.seq
        (.reg [] [⟨some 30,.mov (.tmp 5),none⟩,
         ⟨some 31,.cmp .neq (.tmp 30) (.cst (.d (.int .i64 0))),none⟩])
        (.cond (.tmp 31)
        (.seq
         (.reg [] [⟨some 32,.mov (.tmp 5),none⟩,
          ⟨some 2,.mov (.tmp 32),none⟩])
         .ret)
        .skip))))
      (.reg [] [⟨some 23,.mov (.tmp 4),none⟩,
       ⟨some 24,.arith .add .i64 (.tmp 23) (.cst (.d (.int .i64 1))),none⟩,
       ⟨some 4,.mov (.tmp 24),none⟩])))))))))
  (.seq
   (.reg [] [⟨some 2,.mov (.cst (.d (.int .i64 0))),none⟩])
   .ret))))⟩
theorem zq {b:Bool} {e:Int} (h:b=false):CallDet Try.prog 22 [.d (.bool b),.d (.int .i64 e)] [.int .i64 0]:=by subst h; exact c66 false e
theorem k11 (l:List Int) (h1:1≤l.length) (h8:l.length≤8) (hb:∀ x∈l,0≤x∧x≤6):CallDet Try.prog 11 [.d (.slice 1 (ints l))] [.int .i64 0]:=by
 have hl1:(ints l).length=l.length:=by simp [ints]
 have c22_1:CallDet Try.prog 22 [.d (.bool (((ints l).length:Int)==0)),.d (.int .i64 12)] [.int .i64 0]:=zq (by rw [beq_eq_false_iff_ne]; omega)
 have c22_2:CallDet Try.prog 22 [.d (.bool (decide (8 < ((ints l).length:Int)))),.d (.int .i64 5)] [.int .i64 0]:=zq (decide_eq_false (by omega))
 have c21_:CallDet Try.prog 21 [.d (.slice 1 [.int .i64 0,.int .i64 0])] [.int .i64 0]:=g2 0 0
 refine call_of_vc (x:=jr11) (by kernel_rfl) rfl ?_
 refine And.intro rfl ?_
 refine Exists.intro _ (And.intro c22_1 ?_)
 refine And.intro rfl ?_
 refine Exists.intro _ (And.intro c22_2 ?_)
 refine And.intro rfl ?_
 refine And.intro rfl ?_
 refine Exists.intro _ (And.intro c21_ ?_)
 refine And.intro rfl ?_
 rotate_left
 refine loop_st (fun k:Nat=>⟨[(0,.d (.slice 1 (ints l))),(4,.d (.int .i64 k))],[.none]⟩) (fun k=>k≤l.length) (fun k=>l.length - k) 0 rfl (Nat.zero_le _) ?_
 intro k hk
 have hk:k≤l.length:=hk
 dsimp only
 by_cases hkn:k < l.length
 ·refine Exists.elim (get_lt l (k:=k) (by omega)) fun x hx=>?_
  have hx1:(ints l)[((k:Int)).toNat]?=some (.int .i64 x):=ints_get hx
  have c23_:CallDet Try.prog 23 [.d (.int .i64 x),.d (.int .i64 0),.d (.int .i64 6)] [.int .i64 0]:=by
   have h2:=c62 x 0 6
   rw [within_in (hb x (List.mem_of_getElem? hx))] at h2; exact h2
  have fin:∃ a':Nat,(a'≤l.length∧l.length - a' < l.length - k)∧(⟨[(0,.d (.slice 1 (ints l))),(4,.d (.int .i64 ((k:Int)+1)))],[.none]⟩:St)=⟨[(0,.d (.slice 1 (ints l))),(4,.d (.int .i64 (a':Nat)))],[.none]⟩:=⟨k+1,⟨by omega,by omega⟩,rfl⟩
  refine And.intro rfl ?_
  refine brk_lt (fun t1=>?_) (fun t1=>?_)
  refine ix_at hx1 ?_ ?_
  (show (0:Int)≤(↑k:Int); omega)
  refine Exists.intro _ (And.intro c23_ ?_)
  refine And.intro rfl ?_
  refine ar_add ?_ ?_
  refine And.intro ?_ ?_
  (show (-9223372036854775808:Int)≤(↑k:Int)+(1:Int); omega)
  (show (↑k:Int)+(1:Int)≤(9223372036854775807:Int); omega)
  rotate_left
  (exfalso; omega)
  all_goals exact fin
 ·refine And.intro rfl ?_
  refine brk_lt (fun t1=>?_) (fun t1=>?_)
  (exfalso; omega)
  exact rfl
end Vc
