import Derived.Test.YtcplcokecclehaaG14
set_option linter.unusedSectionVars false
set_option linter.unusedVariables false
set_option linter.unusedSimpArgs false
set_option maxRecDepth 10000
set_option maxHeartbeats 4000000
namespace Vc
open Go Go.Proofs
def orE (a b:Int):Int:=bif a != 0 then a else b
theorem orE_l {a b:Int} (h:¬ a=0):orE a b=a:=by unfold orE; rw [bne_iff_ne.2 h]; rfl
theorem orE_r {a b:Int} (h:a=0):orE a b=b:=by subst h; rfl
theorem orE_zero {a b:Int} (h:orE a b=0):a=0∧b=0:=by
 by_cases e:a=0
 ·rw [orE_r e] at h; exact ⟨e,h⟩
 ·rw [orE_l e] at h; exact absurd h e
def scanI {α:Type} (f:Nat→α→Int):Nat→List α→Int
 | _,[]=>0
 | k,x::r=>orE (f k x) (scanI f (k+1) r)
section
variable {α : Type} {f : Nat → α → Int} {l : List α} {k : Nat} {x : α} {S : Int}
theorem scanI_at (h:l[k]?=some x):scanI f k (l.drop k)=orE (f k x) (scanI f (k+1) (l.drop (k+1))):=by
 obtain ⟨hl,e⟩:=List.getElem?_eq_some_iff.1 h
 rw [List.drop_eq_getElem_cons hl,e]; rfl
theorem scanI_bad (hi:S=scanI f k (l.drop k)) (h:l[k]?=some x) (hb:¬ f k x=0):S=f k x:=by rw [hi,scanI_at h,orE_l hb]
theorem scanI_ok (hi:S=scanI f k (l.drop k)) (h:l[k]?=some x) (hb:f k x=0):S=scanI f (k+1) (l.drop (k+1)):=by rw [hi,scanI_at h,orE_r hb]
theorem scanI_end (hi:S=scanI f k (l.drop k)) (h:l.length≤k):S=0:=by rw [hi,List.drop_eq_nil_of_le h]; rfl
end
theorem scanI_zero {α:Type} {f:Nat→α→Int} {l:List α} (h:scanI f 0 l=0):∀ (k:Nat),scanI f k (l.drop k)=0
 | 0=>h
 | k+1=>by
  have ih:=scanI_zero h k
  rcases Nat.lt_or_ge k l.length with hk | hk
  ·obtain ⟨x,hx⟩:=get_lt l hk
   rw [scanI_at hx] at ih
   exact (orE_zero ih).2
  ·rw [List.drop_eq_nil_of_le (by omega)]; rfl
theorem scanI_each {α:Type} {f:Nat→α→Int} {l:List α} (h:scanI f 0 l=0) {k:Nat} {x:α} (hx:l[k]?=some x):f k x=0:=by
 have ih:=scanI_zero h k
 rw [scanI_at hx] at ih
 exact (orE_zero ih).1
def cntE (n:Int):Int:=firstOf [bif n==0 then 12 else 0,bif decide (8 < n) then 5 else 0]
def rowE (n:Int) (_:Nat) (r:List Int):Int:=bif (r.length:Int) != n then 2 else scanI (fun _ x=>within3 x 1 1000000) 0 r
def idxE (n x:Int):Int:=bif decide (x < 0)||decide (n≤x) then 10 else 0
def ntE (n:Int) (nt:List Int) (k:Nat) (x:Int):Int:=firstOf [idxE n x,bif decide (0 < (k:Int))&&decide (x≤lastN nt k) then 11 else 0]
def tchk (t:Tn):Int:=orE (cntE t.sg.length) (orE (scanI (fun _ x=>within3 x 0 1000000000) 0 t.sg) (orE (cntE t.nz.length) (orE (scanI (rowE t.sg.length) 0 t.nz) (orE (firstOf [within3 t.mg 1 100,within3 t.mx 1 1000000]) (scanI (ntE t.sg.length t.nt) 0 t.nt)))))
def shortT (t:Tn):Bool:=t.nz.all (fun r=>decide ((r.length:Int)≤9))&&(decide ((t.sg.length:Int)≤9)&&(decide ((t.nz.length:Int)≤9)&&decide ((t.nt.length:Int)≤9)))
theorem cnt_ok {n:Nat} (h:cntE n=0):1≤n∧n≤8:=by
 have h1:=firstOf_zero h
 have ha:=h1 (bif (n:Int)==0 then 12 else 0) (by simp)
 have hb:=h1 (bif decide (8 < (n:Int)) then 5 else 0) (by simp)
 constructor
 ·by_cases e:n=0
  ·subst e; cases ha
  ·omega
 ·by_cases e:8 < (n:Int)
  ·rw [decide_eq_true e] at hb; cases hb
  ·omega
theorem idx_ok {n x:Int} (h:idxE n x=0):0≤x∧x < n:=by
 unfold idxE at h
 by_cases e1:x < 0
 ·rw [decide_eq_true e1] at h; cases h
 ·by_cases e2:n≤x
  ·rw [decide_eq_false e1,decide_eq_true e2] at h; cases h
  ·omega
theorem ok_of {t:Tn} (hs:t.nt.length≤9) (h:tchk t=0):t.ok:=by
 obtain ⟨h1,h⟩:=orE_zero h
 obtain ⟨h2,h⟩:=orE_zero h
 obtain ⟨h3,h⟩:=orE_zero h
 obtain ⟨h4,h⟩:=orE_zero h
 obtain ⟨h5,h6⟩:=orE_zero h
 have hg:=firstOf_zero h5
 refine ⟨(cnt_ok h1).1,(cnt_ok h1).2,fun x hx=>?_,(cnt_ok h3).1,(cnt_ok h3).2,fun r hr=>?_,within_ok (hg _ (by simp)),within_ok (hg (within3 t.mx 1 1000000) (by simp)),fun i x hx=>?_,hs⟩
 ·obtain ⟨k,hk⟩:=List.getElem?_of_mem hx
  exact within_ok (scanI_each h2 hk)
 ·obtain ⟨k,hk⟩:=List.getElem?_of_mem hr
  have hr:=scanI_each h4 hk
  unfold rowE at hr
  cases e:((r.length:Int) != (t.sg.length:Int))
  ·rw [e] at hr
   have e2:(r.length:Int)=t.sg.length:=by simpa using e
   refine ⟨by omega,fun x hx=>?_⟩
   obtain ⟨k,hk⟩:=List.getElem?_of_mem hx
   exact within_ok (scanI_each hr hk)
  ·rw [e] at hr; cases hr
 ·have hn:=firstOf_zero (scanI_each h6 hx)
  refine ⟨idx_ok (hn _ (by simp)),fun y hi hy=>?_⟩
  have hb:=hn (bif decide (0 < (i:Int))&&decide (x≤lastN t.nt i) then 11 else 0) (by simp)
  rw [decide_eq_true (by omega)] at hb
  have el:lastN t.nt i=y:=by
   cases i with
   | zero=>omega
   | succ j=>show t.nt[j]?.getD 0=y; rw [show t.nt[j]?=some y from hy]; rfl
  rw [el] at hb
  by_cases e:x≤y
  ·rw [decide_eq_true e] at hb; cases hb
  ·omega
def jr5:AFun:=⟨34,1,[.tmp 2],
 (.seq
 (.reg [0] [⟨some 1,.cbx 0 5 (.tmp 0),none⟩,
  ⟨some 2,.mov (.cst (.d (.bool false))),none⟩])
 (.seq
  (.seq
  (.reg [] [⟨some 3,.mov (.cst (.d (.int .i64 0))),none⟩])
  (.post [1] [0]
   (.block 0
   (.keep [1,3] [0]
    (.loop
    (.post [1,3] []
     (.seq
     (.seq
      (.reg [] [⟨some 4,.mov (.tmp 3),none⟩,
       ⟨some 5,.fad 1 (.tmp 1),none⟩,
       ⟨some 6,.ld false 1 (.tmp 5),none⟩,
       ⟨some 7,.len (.tmp 6),none⟩,
       ⟨some 8,.cmp .lss (.tmp 4) (.tmp 7),none⟩])
      (.cond (.tmp 8)
      .skip
      (.exit 0)))
     (.seq
      (.block 1
      (.seq
       (.reg [] [⟨some 11,.fad 1 (.tmp 1),none⟩,
        ⟨some 12,.ld false 1 (.tmp 11),none⟩,
        ⟨some 13,.mov (.tmp 3),none⟩,
        ⟨some 14,.ixa 1 (.tmp 12) (.tmp 13),none⟩,
        ⟨some 15,.ld false 1 (.tmp 14),none⟩,
        ⟨some 16,.len (.tmp 15),none⟩,
        ⟨some 17,.cmp .gtr (.tmp 16) (.cst (.d (.int .i64 9))),none⟩])
       (.cond (.tmp 17)
       (.seq
        (.reg [] [⟨some 2,.mov (.cst (.d (.bool false))),none⟩])
        .ret)
       .skip)))
      (.reg [] [⟨some 9,.mov (.tmp 3),none⟩,
       ⟨some 10,.arith .add .i64 (.tmp 9) (.cst (.d (.int .i64 1))),none⟩,
       ⟨some 3,.mov (.tmp 10),none⟩])))))))))
  (.seq
  (.reg [] [⟨some 18,.fad 0 (.tmp 1),none⟩,
   ⟨some 19,.ld false 1 (.tmp 18),none⟩,
   ⟨some 20,.len (.tmp 19),none⟩,
   ⟨some 21,.cmp .leq (.tmp 20) (.cst (.d (.int .i64 9))),none⟩,
   ⟨some 22,.mov (.tmp 21),none⟩,
   ⟨some 23,.fad 1 (.tmp 1),some (22,true)⟩,
   ⟨some 24,.ld false 1 (.tmp 23),some (22,true)⟩,
   ⟨some 25,.len (.tmp 24),some (22,true)⟩,
   ⟨some 26,.cmp .leq (.tmp 25) (.cst (.d (.int .i64 9))),some (22,true)⟩,
   ⟨some 27,.pick (.tmp 22) (.tmp 26) (.cst (.d (.bool false))),none⟩,
   ⟨some 28,.mov (.tmp 27),none⟩,
   ⟨some 29,.fad 4 (.tmp 1),some (28,true)⟩,
   ⟨some 30,.ld false 1 (.tmp 29),some (28,true)⟩,
   ⟨some 31,.len (.tmp 30),some (28,true)⟩,
   ⟨some 32,.cmp .leq (.tmp 31) (.cst (.d (.int .i64 9))),some (28,true)⟩,
   ⟨some 33,.pick (.tmp 28) (.tmp 32) (.cst (.d (.bool false))),none⟩,
   ⟨some 2,.mov (.tmp 33),none⟩])
  .ret)))⟩
def jr6:AFun:=⟨7,1,[.tmp 2],
 (.seq
 (.reg [0] [⟨some 1,.cbx 0 5 (.tmp 0),none⟩,
  ⟨some 2,.mov (.cst (.d (.bool false))),none⟩])
 (.seq
  (.reg [] [⟨some 3,.fad 0 (.tmp 1),none⟩,
   ⟨some 4,.ld false 1 (.tmp 3),none⟩,
   ⟨some 5,.len (.tmp 4),none⟩,
   ⟨some 6,.cmp .leq (.tmp 5) (.cst (.d (.int .i64 4))),none⟩,
   ⟨some 2,.mov (.tmp 6),none⟩])
  .ret))⟩
theorem k6 (t:Tn):CallDet Try.prog 6 [.d t.d] [.bool (decide ((t.sg.length:Int)≤4))]:=by
 have hl2:(ints t.sg).length=t.sg.length:=by simp [ints]
 refine call_of_vc (x:=jr6) (by kernel_rfl) rfl ?_
 rw [← hl2]
 refine And.intro rfl ?_
 exact rfl
theorem k5 (t:Tn) (hnz:t.nz.length≤1048576):CallDet Try.prog 5 [.d t.d] [.bool (shortT t)]:=by
 have hl2:(ints t.sg).length=t.sg.length:=by simp [ints]
 have hl3:=rws_len t.nz
 have hl4:(ints t.nt).length=t.nt.length:=by simp [ints]
 refine call_of_vc (x:=jr5) (by kernel_rfl) rfl ?_
 have fin:∀ b,b=shortT t→resV [.bool b]=resV [.bool (shortT t)]:=fun b h=>by rw [h]
 refine loop_st (fun k:Nat=>⟨[(1,.ptr 0 0),(3,.d (.int .i64 k))],[.cbox [.slice 1 (ints t.sg),.slice 1 (rws t.nz),.int .i64 t.mg,.int .i64 t.mx,.slice 1 (ints t.nt)]]⟩) (fun k=>k≤t.nz.length∧t.nz.all (fun r=>decide ((r.length:Int)≤9))=(t.nz.drop k).all (fun r=>decide ((r.length:Int)≤9))) (fun k=>t.nz.length - k) 0 rfl ⟨Nat.zero_le _,rfl⟩ ?_
 intro k hk
 obtain ⟨hk,hi⟩:=hk
 dsimp only
 by_cases hkn:k < t.nz.length
 ·refine Exists.elim (get_lt t.nz (k:=k) hkn) fun r hr=>?_
  have hr1:=rws_at hr
  have hl5:(ints r).length=r.length:=by simp [ints]
  rw [drop_at hr,List.all_cons] at hi
  by_cases h9:(r.length:Int)≤9
  ·have fin2:∃ a':Nat,((a'≤t.nz.length∧t.nz.all (fun r=>decide ((r.length:Int)≤9))=(t.nz.drop a').all (fun r=>decide ((r.length:Int)≤9)))∧t.nz.length - a' < t.nz.length - k)∧(⟨[(1,.ptr 0 0),(3,.d (.int .i64 ((k:Int)+1)))],[.cbox [.slice 1 (ints t.sg),.slice 1 (rws t.nz),.int .i64 t.mg,.int .i64 t.mx,.slice 1 (ints t.nt)]]⟩:St)=⟨[(1,.ptr 0 0),(3,.d (.int .i64 (a':Nat)))],[.cbox [.slice 1 (ints t.sg),.slice 1 (rws t.nz),.int .i64 t.mg,.int .i64 t.mx,.slice 1 (ints t.nt)]]⟩:=⟨k+1,⟨⟨by omega,by rw [hi,decide_eq_true h9]; rfl⟩,by omega⟩,rfl⟩
   refine And.intro rfl ?_
   refine brk_lt (fun t1=>?_) (fun t1=>?_)
   refine ix_at hr1 ?_ ?_
   (show (0:Int)≤(↑k:Int); omega)
   refine And.intro rfl ?_
   refine brk_lt (fun t2=>?_) (fun t2=>?_)
   (exfalso; omega)
   refine ar_add ?_ ?_
   refine And.intro ?_ ?_
   (show (-9223372036854775808:Int)≤(↑k:Int)+(1:Int); omega)
   (show (↑k:Int)+(1:Int)≤(9223372036854775807:Int); omega)
   rotate_left
   (exfalso; omega)
   all_goals exact fin2
  ·refine And.intro rfl ?_
   refine brk_lt (fun t1=>?_) (fun t1=>?_)
   refine ix_at hr1 ?_ ?_
   (show (0:Int)≤(↑k:Int); omega)
   refine And.intro rfl ?_
   refine brk_lt (fun t2=>?_) (fun t2=>?_)
   rotate_left
   (exfalso; omega)
   (exfalso; omega)
   all_goals exact fin _ (by unfold shortT; rw [hi,decide_eq_false h9]; rfl)
 ·rw [List.drop_eq_nil_of_le (by omega)] at hi
  have e0:shortT t=(decide ((t.sg.length:Int)≤9)&&(decide ((t.nz.length:Int)≤9)&&decide ((t.nt.length:Int)≤9))):=by unfold shortT; rw [hi]; rfl
  by_cases a1:(t.sg.length:Int)≤9
  ·by_cases a2:(t.nz.length:Int)≤9
   ·refine And.intro rfl ?_
    refine brk_lt (fun t1=>?_) (fun t1=>?_)
    (exfalso; omega)
    refine And.intro rfl ?_
    refine brk_le (fun t2=>?_) (fun t2=>?_)
    refine And.intro rfl ?_
    refine brk_le (fun t3=>?_) (fun t3=>?_)
    refine And.intro rfl ?_
    rotate_left
    (exfalso; omega)
    (exfalso; omega)
    all_goals exact fin _ (by rw [e0,decide_eq_true a1,decide_eq_true a2,← hl4]; rfl)
   ·refine And.intro rfl ?_
    refine brk_lt (fun t1=>?_) (fun t1=>?_)
    (exfalso; omega)
    refine And.intro rfl ?_
    refine brk_le (fun t2=>?_) (fun t2=>?_)
    refine And.intro rfl ?_
    refine brk_le (fun t3=>?_) (fun t3=>?_)
    (exfalso; omega)
    refine And.intro rfl ?_
    rotate_left
    (exfalso; omega)
    all_goals exact fin _ (by rw [e0,decide_eq_true a1,decide_eq_false a2]; try rfl)
  ·refine And.intro rfl ?_
   refine brk_lt (fun t1=>?_) (fun t1=>?_)
   (exfalso; omega)
   refine And.intro rfl ?_
   refine brk_le (fun t2=>?_) (fun t2=>?_)
   (exfalso; omega)
   refine And.intro rfl ?_
   refine And.intro rfl ?_
   rotate_left
   all_goals exact fin _ (by rw [e0,decide_eq_false a1]; try rfl)
theorem g2r (A B:Int) {E:Int} (h:E=firstOf [A,B]):CallDet Try.prog 21 [.d (.slice 1 [.int .i64 A,.int .i64 B])] [.int .i64 E]:=by rw [h]; exact g2 A B
def jr7:AFun:=⟨148,5,[.tmp 2],
 (.seq
 (.reg [0] [⟨some 1,.cbx 0 5 (.tmp 0),none⟩,
  ⟨some 2,.mov (.cst (.d (.int .i64 0))),none⟩])
 (.seq
  (.seq
  (.regd [1] [⟨some 13,.fad 0 (.tmp 1),none⟩,
   ⟨some 14,.ld false 1 (.tmp 13),none⟩,
   ⟨some 15,.len (.tmp 14),none⟩,
   ⟨some 16,.cmp .eql (.tmp 15) (.cst (.d (.int .i64 0))),none⟩,
   ⟨some 17,.call 22 [(.tmp 16),(.cst (.d (.int .i64 12)))],none⟩,
   ⟨some 18,.fad 0 (.tmp 1),none⟩,
   ⟨some 19,.ld false 1 (.tmp 18),none⟩,
   ⟨some 20,.len (.tmp 19),none⟩,
   ⟨some 21,.cmp .gtr (.tmp 20) (.cst (.d (.int .i64 8))),none⟩,
   ⟨some 22,.call 22 [(.tmp 21),(.cst (.d (.int .i64 5)))],none⟩,
   ⟨some 23,.bsl 1 3 1 2 [(.int .i64 0),(.int .i64 0)] [(0,(.tmp 17)),(1,(.tmp 22))],none⟩,
   ⟨some 24,.call 21 [(.tmp 23)],none⟩,
   ⟨some 3,.mov (.tmp 24),none⟩] [(0,5),(1,5),(2,5),(3,5),(4,5),(0,6),(1,6),(2,6),(3,6),(4,6),(0,7),(1,7),(2,7),(3,7),(4,7),(0,8),(1,8),(2,8),(3,8),(4,8)])
  (.seq
   (.reg [] [⟨some 25,.mov (.tmp 3),none⟩,
    ⟨some 26,.cmp .neq (.tmp 25) (.cst (.d (.int .i64 0))),none⟩])
   (.cond (.tmp 26)
   (.seq
    (.reg [] [⟨some 27,.mov (.tmp 3),none⟩,
     ⟨some 2,.mov (.tmp 27),none⟩])
    .ret)
   .skip)))
  (.seq
  (.seq
   (.reg [] [⟨some 4,.mov (.cst (.d (.int .i64 0))),none⟩])
   (.post [1] [0,1]
   (.block 0
    (.keep [1,4] [0,1]
    (.loop
     (.post [1,4] []
     (.seq
      (.seq
      (.reg [] [⟨some 28,.mov (.tmp 4),none⟩,
       ⟨some 29,.fad 0 (.tmp 1),none⟩,
       ⟨some 30,.ld false 1 (.tmp 29),none⟩,
       ⟨some 31,.len (.tmp 30),none⟩,
       ⟨some 32,.cmp .lss (.tmp 28) (.tmp 31),none⟩])
      (.cond (.tmp 32)
       .skip
       (.exit 0)))
      (.seq
      (.block 1
       (.seq
       (.reg [] [⟨some 35,.fad 0 (.tmp 1),none⟩,
        ⟨some 36,.ld false 1 (.tmp 35),none⟩,
        ⟨some 37,.mov (.tmp 4),none⟩,
        ⟨some 38,.ixa 1 (.tmp 36) (.tmp 37),none⟩,
        ⟨some 39,.ld false 1 (.tmp 38),none⟩,
        ⟨some 40,.call 23 [(.tmp 39),(.cst (.d (.int .i64 0))),(.cst (.d (.int .i64 1000000000)))],none⟩,
        ⟨some 5,.mov (.tmp 40),none⟩])
       (.seq
        (.reg [] [⟨some 41,.mov (.tmp 5),none⟩,
         ⟨some 42,.cmp .neq (.tmp 41) (.cst (.d (.int .i64 0))),none⟩])
        (.cond (.tmp 42)
        (.seq
         (.reg [] [⟨some 43,.mov (.tmp 5),none⟩,
          ⟨some 2,.mov (.tmp 43),none⟩])
         .ret)
        .skip))))
      (.reg [] [⟨some 33,.mov (.tmp 4),none⟩,
       ⟨some 34,.arith .add .i64 (.tmp 33) (.cst (.d (.int .i64 1))),none⟩,
       ⟨some 4,.mov (.tmp 34),none⟩])))))))))
  (.seq
   (.seq
   (.regd [2] [⟨some 44,.fad 1 (.tmp 1),none⟩,
    ⟨some 45,.ld false 1 (.tmp 44),none⟩,
    ⟨some 46,.len (.tmp 45),none⟩,
    ⟨some 47,.cmp .eql (.tmp 46) (.cst (.d (.int .i64 0))),none⟩,
    ⟨some 48,.call 22 [(.tmp 47),(.cst (.d (.int .i64 12)))],none⟩,
    ⟨some 49,.fad 1 (.tmp 1),none⟩,
    ⟨some 50,.ld false 1 (.tmp 49),none⟩,
    ⟨some 51,.len (.tmp 50),none⟩,
    ⟨some 52,.cmp .gtr (.tmp 51) (.cst (.d (.int .i64 8))),none⟩,
    ⟨some 53,.call 22 [(.tmp 52),(.cst (.d (.int .i64 5)))],none⟩,
    ⟨some 54,.bsl 2 3 1 2 [(.int .i64 0),(.int .i64 0)] [(0,(.tmp 48)),(1,(.tmp 53))],none⟩,
    ⟨some 55,.call 21 [(.tmp 54)],none⟩,
    ⟨some 6,.mov (.tmp 55),none⟩] [(0,5),(1,5),(2,5),(3,5),(4,5),(0,6),(1,6),(2,6),(3,6),(4,6),(0,7),(1,7),(2,7),(3,7),(4,7),(0,8),(1,8),(2,8),(3,8),(4,8)])
   (.seq
    (.reg [] [⟨some 56,.mov (.tmp 6),none⟩,
     ⟨some 57,.cmp .neq (.tmp 56) (.cst (.d (.int .i64 0))),none⟩])
    (.cond (.tmp 57)
    (.seq
     (.reg [] [⟨some 58,.mov (.tmp 6),none⟩,
      ⟨some 2,.mov (.tmp 58),none⟩])
     .ret)
    .skip)))
   (.seq
   (.seq
    (.reg [] [⟨some 7,.mov (.cst (.d (.int .i64 0))),none⟩])
    (.post [1] [0,1,2]
    (.block 2
     (.keep [1,7] [0,1,2]
     (.loop
      (.post [1,7] []
      (.seq
       (.seq
       (.reg [] [⟨some 59,.mov (.tmp 7),none⟩,
        ⟨some 60,.fad 1 (.tmp 1),none⟩,
        ⟨some 61,.ld false 1 (.tmp 60),none⟩,
        ⟨some 62,.len (.tmp 61),none⟩,
        ⟨some 63,.cmp .lss (.tmp 59) (.tmp 62),none⟩])
       (.cond (.tmp 63)
        .skip
        (.exit 2)))
       (.seq
       (.block 3
        (.seq
        (.seq
         (.regd [] [⟨some 66,.fad 1 (.tmp 1),none⟩,
          ⟨some 67,.ld false 1 (.tmp 66),none⟩,
          ⟨some 68,.mov (.tmp 7),none⟩,
          ⟨some 69,.ixa 1 (.tmp 67) (.tmp 68),none⟩,
          ⟨some 70,.ld false 1 (.tmp 69),none⟩,
          ⟨some 71,.len (.tmp 70),none⟩,
          ⟨some 72,.fad 0 (.tmp 1),none⟩,
          ⟨some 73,.ld false 1 (.tmp 72),none⟩,
          ⟨some 74,.len (.tmp 73),none⟩,
          ⟨some 75,.cmp .neq (.tmp 71) (.tmp 74),none⟩] [(0,2),(1,2),(0,6),(1,6),(2,6),(3,6),(4,6),(5,6),(0,7),(1,7),(2,7),(3,7),(4,7),(5,7),(0,8),(1,8),(2,8),(3,8),(4,8),(5,8)])
         (.cond (.tmp 75)
         (.seq
          (.reg [] [⟨some 2,.mov (.cst (.d (.int .i64 2))),none⟩])
          .ret)
         .skip))
        (.seq
         (.reg [] [⟨some 8,.mov (.cst (.d (.int .i64 0))),none⟩])
         (.post [1,7] [0,1,2]
         (.block 4
          (.keep [1,7,8] [0,1,2]
          (.loop
           (.post [1,7,8] []
           (.seq
            (.seq
            (.reg [] [⟨some 76,.mov (.tmp 8),none⟩,
             ⟨some 77,.fad 1 (.tmp 1),none⟩,
             ⟨some 78,.ld false 1 (.tmp 77),none⟩,
             ⟨some 79,.mov (.tmp 7),none⟩,
             ⟨some 80,.ixa 1 (.tmp 78) (.tmp 79),none⟩,
             ⟨some 81,.ld false 1 (.tmp 80),none⟩,
             ⟨some 82,.len (.tmp 81),none⟩,
             ⟨some 83,.cmp .lss (.tmp 76) (.tmp 82),none⟩])
            (.cond (.tmp 83)
             .skip
             (.exit 4)))
            (.seq
            (.block 5
             (.seq
             (.reg [] [⟨some 86,.fad 1 (.tmp 1),none⟩,
              ⟨some 87,.ld false 1 (.tmp 86),none⟩,
              ⟨some 88,.mov (.tmp 7),none⟩,
              ⟨some 89,.ixa 1 (.tmp 87) (.tmp 88),none⟩,
              ⟨some 90,.ld false 1 (.tmp 89),none⟩,
              ⟨some 91,.mov (.tmp 8),none⟩,
              ⟨some 92,.ixa 1 (.tmp 90) (.tmp 91),none⟩,
              ⟨some 93,.ld false 1 (.tmp 92),none⟩,
              ⟨some 94,.call 23 [(.tmp 93),(.cst (.d (.int .i64 1))),(.cst (.d (.int .i64 1000000)))],none⟩,
              ⟨some 9,.mov (.tmp 94),none⟩])
             (.seq
              (.reg [] [⟨some 95,.mov (.tmp 9),none⟩,
               ⟨some 96,.cmp .neq (.tmp 95) (.cst (.d (.int .i64 0))),none⟩])
              (.cond (.tmp 96)
              (.seq
               (.reg [] [⟨some 97,.mov (.tmp 9),none⟩,
                ⟨some 2,.mov (.tmp 97),none⟩])
               .ret)
              .skip))))
            (.reg [] [⟨some 84,.mov (.tmp 8),none⟩,
             ⟨some 85,.arith .add .i64 (.tmp 84) (.cst (.d (.int .i64 1))),none⟩,
             ⟨some 8,.mov (.tmp 85),none⟩])))))))))))
       (.reg [] [⟨some 64,.mov (.tmp 7),none⟩,
        ⟨some 65,.arith .add .i64 (.tmp 64) (.cst (.d (.int .i64 1))),none⟩,
        ⟨some 7,.mov (.tmp 65),none⟩])))))))))
   (.seq
    (.seq
    (.regd [3] [⟨some 98,.fad 2 (.tmp 1),none⟩,
     ⟨some 99,.ld false 1 (.tmp 98),none⟩,
     ⟨some 100,.call 23 [(.tmp 99),(.cst (.d (.int .i64 1))),(.cst (.d (.int .i64 100)))],none⟩,
     ⟨some 101,.fad 3 (.tmp 1),none⟩,
     ⟨some 102,.ld false 1 (.tmp 101),none⟩,
     ⟨some 103,.call 23 [(.tmp 102),(.cst (.d (.int .i64 1))),(.cst (.d (.int .i64 1000000)))],none⟩,
     ⟨some 104,.bsl 3 3 1 2 [(.int .i64 0),(.int .i64 0)] [(0,(.tmp 100)),(1,(.tmp 103))],none⟩,
     ⟨some 105,.call 21 [(.tmp 104)],none⟩,
     ⟨some 10,.mov (.tmp 105),none⟩] [(0,3),(1,3),(2,3),(0,4),(1,4),(2,4)])
    (.seq
     (.reg [] [⟨some 106,.mov (.tmp 10),none⟩,
      ⟨some 107,.cmp .neq (.tmp 106) (.cst (.d (.int .i64 0))),none⟩])
     (.cond (.tmp 107)
     (.seq
      (.reg [] [⟨some 108,.mov (.tmp 10),none⟩,
       ⟨some 2,.mov (.tmp 108),none⟩])
      .ret)
     .skip)))
    (.seq
    (.seq
     (.reg [] [⟨some 11,.mov (.cst (.d (.int .i64 0))),none⟩])
     (.post [] [0,1,2,3,4]
     (.block 6
      (.keep [1,11] [0,1,2,3]
      (.loop
       (.post [1,11] [4]
       (.seq
        (.seq
        (.reg [] [⟨some 109,.mov (.tmp 11),none⟩,
         ⟨some 110,.fad 4 (.tmp 1),none⟩,
         ⟨some 111,.ld false 1 (.tmp 110),none⟩,
         ⟨some 112,.len (.tmp 111),none⟩,
         ⟨some 113,.cmp .lss (.tmp 109) (.tmp 112),none⟩])
        (.cond (.tmp 113)
         .skip
         (.exit 6)))
        (.seq
        (.block 7
         (.seq
         (.regd [4] [⟨some 116,.fad 0 (.tmp 1),none⟩,
          ⟨some 117,.ld false 1 (.tmp 116),none⟩,
          ⟨some 118,.len (.tmp 117),none⟩,
          ⟨some 119,.fad 4 (.tmp 1),none⟩,
          ⟨some 120,.ld false 1 (.tmp 119),none⟩,
          ⟨some 121,.mov (.tmp 11),none⟩,
          ⟨some 122,.ixa 1 (.tmp 120) (.tmp 121),none⟩,
          ⟨some 123,.ld false 1 (.tmp 122),none⟩,
          ⟨some 124,.call 24 [(.tmp 118),(.tmp 123)],none⟩,
          ⟨some 125,.mov (.tmp 11),none⟩,
          ⟨some 126,.cmp .gtr (.tmp 125) (.cst (.d (.int .i64 0))),none⟩,
          ⟨some 127,.mov (.tmp 126),none⟩,
          ⟨some 128,.fad 4 (.tmp 1),some (127,true)⟩,
          ⟨some 129,.ld false 1 (.tmp 128),some (127,true)⟩,
          ⟨some 130,.mov (.tmp 11),some (127,true)⟩,
          ⟨some 131,.ixa 1 (.tmp 129) (.tmp 130),some (127,true)⟩,
          ⟨some 132,.ld false 1 (.tmp 131),some (127,true)⟩,
          ⟨some 133,.fad 4 (.tmp 1),some (127,true)⟩,
          ⟨some 134,.ld false 1 (.tmp 133),some (127,true)⟩,
          ⟨some 135,.mov (.tmp 11),some (127,true)⟩,
          ⟨some 136,.arith .sub .i64 (.tmp 135) (.cst (.d (.int .i64 1))),some (127,true)⟩,
          ⟨some 137,.maxi (.cst (.d (.int .i64 0))) (.tmp 136),some (127,true)⟩,
          ⟨some 138,.ixa 1 (.tmp 134) (.tmp 137),some (127,true)⟩,
          ⟨some 139,.ld false 1 (.tmp 138),some (127,true)⟩,
          ⟨some 140,.cmp .leq (.tmp 132) (.tmp 139),some (127,true)⟩,
          ⟨some 141,.pick (.tmp 127) (.tmp 140) (.cst (.d (.bool false))),none⟩,
          ⟨some 142,.call 22 [(.tmp 141),(.cst (.d (.int .i64 11)))],none⟩,
          ⟨some 143,.bsl 4 3 1 2 [(.int .i64 0),(.int .i64 0)] [(0,(.tmp 124)),(1,(.tmp 142))],none⟩,
          ⟨some 144,.call 21 [(.tmp 143)],none⟩,
          ⟨some 12,.mov (.tmp 144),none⟩] [(0,3),(1,3),(2,3),(0,4),(1,4),(2,4),(0,5),(1,5),(2,5),(3,5),(4,5),(0,6),(1,6),(2,6),(0,7),(1,7),(2,7),(0,9),(1,9),(2,9),(3,9),(4,9),(5,9),(6,9),(7,9),(8,9),(0,10),(1,10),(2,10),(3,10),(4,10),(5,10),(6,10),(7,10),(8,10),(12,14),(13,14),(12,17),(13,17),(14,17),(15,17),(16,17),(12,18),(13,18),(14,18),(15,18),(16,18),(12,19),(13,19),(14,19),(15,19),(16,19),(17,19),(18,19),(12,20),(13,20),(14,20),(15,20),(16,20),(17,20),(18,20),(12,21),(13,21),(14,21),(15,21),(16,21),(17,21),(18,21),(12,22),(13,22),(14,22),(15,22),(16,22),(12,23),(13,23),(14,23),(15,23),(16,23)])
         (.seq
          (.reg [] [⟨some 145,.mov (.tmp 12),none⟩,
           ⟨some 146,.cmp .neq (.tmp 145) (.cst (.d (.int .i64 0))),none⟩])
          (.cond (.tmp 146)
          (.seq
           (.reg [] [⟨some 147,.mov (.tmp 12),none⟩,
            ⟨some 2,.mov (.tmp 147),none⟩])
           .ret)
          .skip))))
        (.reg [] [⟨some 114,.mov (.tmp 11),none⟩,
         ⟨some 115,.arith .add .i64 (.tmp 114) (.cst (.d (.int .i64 1))),none⟩,
         ⟨some 11,.mov (.tmp 115),none⟩])))))))))
    (.seq
     (.reg [] [⟨some 2,.mov (.cst (.d (.int .i64 0))),none⟩])
     .ret))))))))⟩
theorem k7 {t:Tn} (h9:t.sg.length≤9) (hz9:t.nz.length≤1048576) (hr9:∀ r∈t.nz,r.length≤9) (hn9:t.nt.length≤9):CallDet Try.prog 7 [.d t.d] [.int .i64 (tchk t)]:=by
 have hl2:(ints t.sg).length=t.sg.length:=by simp [ints]
 have hl3:=rws_len t.nz
 have hl4:(ints t.nt).length=t.nt.length:=by simp [ints]
 refine call_of_vc (x:=jr7) (by kernel_rfl) rfl ?_
 have fin:∀ v,tchk t=v→resV [.int .i64 v]=resV [.int .i64 (tchk t)]:=fun v e=>by rw [e]
 have hc:tchk t=orE (cntE t.sg.length) (orE (scanI (fun _ x=>within3 x 0 1000000000) 0 t.sg) (orE (cntE t.nz.length) (orE (scanI (rowE t.sg.length) 0 t.nz) (orE (firstOf [within3 t.mg 1 100,within3 t.mx 1 1000000]) (scanI (ntE t.sg.length t.nt) 0 t.nt))))):=rfl
 obtain ⟨E1,hE1⟩:∃ v,v=cntE t.sg.length:=⟨_,rfl⟩
 obtain ⟨E2,hE2⟩:∃ v,v=cntE t.nz.length:=⟨_,rfl⟩
 obtain ⟨E3,hE3⟩:∃ v,v=firstOf [within3 t.mg 1 100,within3 t.mx 1 1000000]:=⟨_,rfl⟩
 obtain ⟨S1,hS1⟩:∃ v,v=scanI (fun _ x=>within3 x 0 1000000000) 0 t.sg:=⟨_,rfl⟩
 obtain ⟨S2,hS2⟩:∃ v,v=scanI (rowE t.sg.length) 0 t.nz:=⟨_,rfl⟩
 obtain ⟨S3,hS3⟩:∃ v,v=scanI (ntE t.sg.length t.nt) 0 t.nt:=⟨_,rfl⟩
 rw [← hE1,← hE2,← hE3,← hS1,← hS2,← hS3] at hc
 have c22_1:=c66 (((ints t.sg).length:Int)==0) 12
 have c22_2:=c66 (decide (8 < ((ints t.sg).length:Int))) 5
 have c22_3:=c66 (((rws t.nz).length:Int)==0) 12
 have c22_4:=c66 (decide (8 < ((rws t.nz).length:Int))) 5
 have c21_1:=g2r (bif ((ints t.sg).length:Int)==0 then 12 else 0) (bif decide (8 < ((ints t.sg).length:Int)) then 5 else 0) (E:=E1) (by rw [hE1,hl2]; rfl)
 have c21_2:=g2r (bif ((rws t.nz).length:Int)==0 then 12 else 0) (bif decide (8 < ((rws t.nz).length:Int)) then 5 else 0) (E:=E2) (by rw [hE2,hl3]; rfl)
 by_cases e1:E1=0
 rotate_left
 ·refine And.intro rfl ?_
  refine Exists.intro _ (And.intro c22_1 ?_)
  refine And.intro rfl ?_
  refine Exists.intro _ (And.intro c22_2 ?_)
  refine And.intro rfl ?_
  refine And.intro rfl ?_
  refine Exists.intro _ (And.intro c21_1 ?_)
  refine And.intro rfl ?_
  refine brk_ne (fun t1=>?_) (fun t1=>?_)
  rotate_left
  (exfalso; omega)
  all_goals exact fin E1 (hc.trans (orE_l e1))
 rw [orE_r e1] at hc
 refine And.intro rfl ?_
 refine Exists.intro _ (And.intro c22_1 ?_)
 refine And.intro rfl ?_
 refine Exists.intro _ (And.intro c22_2 ?_)
 refine And.intro rfl ?_
 refine And.intro rfl ?_
 refine Exists.intro _ (And.intro c21_1 ?_)
 refine And.intro rfl ?_
 refine brk_ne (fun t1=>?_) (fun t1=>?_)
 (exfalso; omega)
 rotate_left
 refine loop_st (fun k:Nat=>⟨[(1,.ptr 0 0),(4,.d (.int .i64 k))],[.cbox [.slice 1 (ints t.sg),.slice 1 (rws t.nz),.int .i64 t.mg,.int .i64 t.mx,.slice 1 (ints t.nt)],.none,.none,.none,.none]⟩) (fun k=>k≤t.sg.length∧S1=scanI (fun _ x=>within3 x 0 1000000000) k (t.sg.drop k)) (fun k=>t.sg.length - k) 0 rfl ⟨Nat.zero_le _,hS1⟩ ?_
 intro k hk
 obtain ⟨hk,hi⟩:=hk
 dsimp only
 by_cases hkn:k < t.sg.length
 ·refine Exists.elim (get_lt t.sg (k:=k) hkn) fun x hx=>?_
  have hx1:(ints t.sg)[((k:Int)).toNat]?=some (.int .i64 x):=ints_get hx
  have c23_:=c62 x 0 1000000000
  by_cases ew:within3 x 0 1000000000=0
  ·have fin2:∃ a':Nat,((a'≤t.sg.length∧S1=scanI (fun _ x=>within3 x 0 1000000000) a' (t.sg.drop a'))∧t.sg.length - a' < t.sg.length - k)∧(⟨[(1,.ptr 0 0),(4,.d (.int .i64 ((k:Int)+1)))],[.cbox [.slice 1 (ints t.sg),.slice 1 (rws t.nz),.int .i64 t.mg,.int .i64 t.mx,.slice 1 (ints t.nt)],.none,.none,.none,.none]⟩:St)=⟨[(1,.ptr 0 0),(4,.d (.int .i64 (a':Nat)))],[.cbox [.slice 1 (ints t.sg),.slice 1 (rws t.nz),.int .i64 t.mg,.int .i64 t.mx,.slice 1 (ints t.nt)],.none,.none,.none,.none]⟩:=⟨k+1,⟨⟨by omega,scanI_ok hi hx ew⟩,by omega⟩,rfl⟩
   generalize within3 x 0 1000000000=w at *
   refine And.intro rfl ?_
   refine brk_lt (fun t2=>?_) (fun t2=>?_)
   refine ix_at hx1 ?_ ?_
   (show (0:Int)≤(↑k:Int); omega)
   refine Exists.intro _ (And.intro c23_ ?_)
   refine And.intro rfl ?_
   refine brk_ne (fun t3=>?_) (fun t3=>?_)
   (exfalso; omega)
   refine ar_add ?_ ?_
   refine And.intro ?_ ?_
   (show (-9223372036854775808:Int)≤(↑k:Int)+(1:Int); omega)
   (show (↑k:Int)+(1:Int)≤(9223372036854775807:Int); omega)
   rotate_left
   (exfalso; omega)
   all_goals exact fin2
  ·have eb:=scanI_bad hi hx ew
   have eb:S1=within3 x 0 1000000000:=eb
   generalize within3 x 0 1000000000=w at *
   refine And.intro rfl ?_
   refine brk_lt (fun t2=>?_) (fun t2=>?_)
   refine ix_at hx1 ?_ ?_
   (show (0:Int)≤(↑k:Int); omega)
   refine Exists.intro _ (And.intro c23_ ?_)
   refine And.intro rfl ?_
   refine brk_ne (fun t3=>?_) (fun t3=>?_)
   rotate_left
   (exfalso; omega)
   (exfalso; omega)
   all_goals exact fin _ (by rw [hc,eb,orE_l ew])
 ·have s1:S1=0:=scanI_end hi (by omega)
  rw [orE_r s1] at hc
  clear hi hS1
  by_cases e2:E2=0
  rotate_left
  ·refine And.intro rfl ?_
   refine brk_lt (fun t2=>?_) (fun t2=>?_)
   (exfalso; omega)
   refine And.intro rfl ?_
   refine Exists.intro _ (And.intro c22_3 ?_)
   refine And.intro rfl ?_
   refine Exists.intro _ (And.intro c22_4 ?_)
   refine And.intro rfl ?_
   refine And.intro rfl ?_
   refine Exists.intro _ (And.intro c21_2 ?_)
   refine And.intro rfl ?_
   refine brk_ne (fun t3=>?_) (fun t3=>?_)
   rotate_left
   (exfalso; omega)
   all_goals exact fin E2 (hc.trans (orE_l e2))
  rw [orE_r e2] at hc
  refine And.intro rfl ?_
  refine brk_lt (fun t2=>?_) (fun t2=>?_)
  (exfalso; omega)
  refine And.intro rfl ?_
  refine Exists.intro _ (And.intro c22_3 ?_)
  refine And.intro rfl ?_
  refine Exists.intro _ (And.intro c22_4 ?_)
  refine And.intro rfl ?_
  refine And.intro rfl ?_
  refine Exists.intro _ (And.intro c21_2 ?_)
  refine And.intro rfl ?_
  refine brk_ne (fun t3=>?_) (fun t3=>?_)
  (exfalso; omega)
  rotate_left
  refine loop_st (fun k:Nat=>⟨[(1,.ptr 0 0),(7,.d (.int .i64 k))],[.cbox [.slice 1 (ints t.sg),.slice 1 (rws t.nz),.int .i64 t.mg,.int .i64 t.mx,.slice 1 (ints t.nt)],.none,.none,.none,.none]⟩) (fun k=>k≤t.nz.length∧S2=scanI (rowE t.sg.length) k (t.nz.drop k)) (fun k=>t.nz.length - k) 0 rfl ⟨Nat.zero_le _,hS2⟩ ?_
  intro p hp
  obtain ⟨hp,hi⟩:=hp
  dsimp only
  by_cases hpn:p < t.nz.length
  ·refine Exists.elim (get_lt t.nz (k:=p) hpn) fun r hr=>?_
   have hr1:=rws_at hr
   have hrl:=hr9 r (List.mem_of_getElem? hr)
   have hl5:(ints r).length=r.length:=by simp [ints]
   by_cases hne:(r.length:Int)=(t.sg.length:Int)
   rotate_left
   ·have er:rowE t.sg.length p r=2:=by unfold rowE; rw [bne_iff_ne.2 hne]; rfl
    have eb:=scanI_bad hi hr (by rw [er]; decide)
    rw [er] at eb
    refine And.intro rfl ?_
    refine brk_lt (fun t4=>?_) (fun t4=>?_)
    refine ix_at hr1 ?_ ?_
    (show (0:Int)≤(↑p:Int); omega)
    refine And.intro rfl ?_
    refine brk_ne (fun t5=>?_) (fun t5=>?_)
    rotate_left
    (exfalso; omega)
    (exfalso; omega)
    all_goals exact fin _ (by rw [hc,eb]; rfl)
   have er:rowE t.sg.length p r=scanI (fun _ x=>within3 x 1 1000000) 0 r:=by unfold rowE; rw [hne]; simp
   have fin3:scanI (fun _ x=>within3 x 1 1000000) 0 r=0→∃ a':Nat,((a'≤t.nz.length∧S2=scanI (rowE t.sg.length) a' (t.nz.drop a'))∧t.nz.length - a' < t.nz.length - p)∧(⟨[(1,.ptr 0 0),(7,.d (.int .i64 ((p:Int)+1)))],[.cbox [.slice 1 (ints t.sg),.slice 1 (rws t.nz),.int .i64 t.mg,.int .i64 t.mx,.slice 1 (ints t.nt)],.none,.none,.none,.none]⟩:St)=⟨[(1,.ptr 0 0),(7,.d (.int .i64 (a':Nat)))],[.cbox [.slice 1 (ints t.sg),.slice 1 (rws t.nz),.int .i64 t.mg,.int .i64 t.mx,.slice 1 (ints t.nt)],.none,.none,.none,.none]⟩:=fun e=>⟨p+1,⟨⟨by omega,scanI_ok hi hr (by rw [er]; exact e)⟩,by omega⟩,rfl⟩
   have fin4:∀ v,scanI (fun _ x=>within3 x 1 1000000) 0 r=v→¬ v=0→resV [.int .i64 v]=resV [.int .i64 (tchk t)]:=fun v e hv=>fin v (by
    have eb:=scanI_bad hi hr (by rw [er,e]; exact hv)
    rw [er,e] at eb
    rw [hc,eb,orE_l hv])
   obtain ⟨R,hR⟩:∃ v,v=scanI (fun _ x=>within3 x 1 1000000) 0 r:=⟨_,rfl⟩
   rw [← hR] at fin3 fin4
   refine And.intro rfl ?_
   refine brk_lt (fun t4=>?_) (fun t4=>?_)
   refine ix_at hr1 ?_ ?_
   (show (0:Int)≤(↑p:Int); omega)
   refine And.intro rfl ?_
   refine brk_ne (fun t5=>?_) (fun t5=>?_)
   (exfalso; omega)
   rotate_left
   (exfalso; omega)
   refine loop_st (fun j:Nat=>⟨[(1,.ptr 0 0),(7,.d (.int .i64 p)),(8,.d (.int .i64 j))],[.cbox [.slice 1 (ints t.sg),.slice 1 (rws t.nz),.int .i64 t.mg,.int .i64 t.mx,.slice 1 (ints t.nt)],.none,.none,.none,.none]⟩) (fun j=>j≤r.length∧R=scanI (fun _ x=>within3 x 1 1000000) j (r.drop j)) (fun j=>r.length - j) 0 rfl ⟨Nat.zero_le _,hR⟩ ?_
   intro j hj
   obtain ⟨hj,hi2⟩:=hj
   dsimp only
   by_cases hjn:j < r.length
   ·refine Exists.elim (get_lt r (k:=j) hjn) fun x hx=>?_
    have hx1:(ints r)[((j:Int)).toNat]?=some (.int .i64 x):=ints_get hx
    have c23_:=c62 x 1 1000000
    by_cases ew:within3 x 1 1000000=0
    ·have fin2:∃ a':Nat,((a'≤r.length∧R=scanI (fun _ x=>within3 x 1 1000000) a' (r.drop a'))∧r.length - a' < r.length - j)∧(⟨[(1,.ptr 0 0),(7,.d (.int .i64 p)),(8,.d (.int .i64 ((j:Int)+1)))],[.cbox [.slice 1 (ints t.sg),.slice 1 (rws t.nz),.int .i64 t.mg,.int .i64 t.mx,.slice 1 (ints t.nt)],.none,.none,.none,.none]⟩:St)=⟨[(1,.ptr 0 0),(7,.d (.int .i64 p)),(8,.d (.int .i64 (a':Nat)))],[.cbox [.slice 1 (ints t.sg),.slice 1 (rws t.nz),.int .i64 t.mg,.int .i64 t.mx,.slice 1 (ints t.nt)],.none,.none,.none,.none]⟩:=⟨j+1,⟨⟨by omega,scanI_ok hi2 hx ew⟩,by omega⟩,rfl⟩
     generalize within3 x 1 1000000=w at *
     refine ix_at hr1 ?_ ?_
     (show (0:Int)≤(↑p:Int); omega)
     refine And.intro rfl ?_
     refine brk_lt (fun t6=>?_) (fun t6=>?_)
     refine ix_at hr1 ?_ ?_
     (show (0:Int)≤(↑p:Int); omega)
     refine ix_at hx1 ?_ ?_
     (show (0:Int)≤(↑j:Int); omega)
     refine Exists.intro _ (And.intro c23_ ?_)
     refine And.intro rfl ?_
     refine brk_ne (fun t7=>?_) (fun t7=>?_)
     (exfalso; omega)
     refine ar_add ?_ ?_
     refine And.intro ?_ ?_
     (show (-9223372036854775808:Int)≤(↑j:Int)+(1:Int); omega)
     (show (↑j:Int)+(1:Int)≤(9223372036854775807:Int); omega)
     rotate_left
     (exfalso; omega)
     all_goals exact fin2
    ·have eb:R=within3 x 1 1000000:=scanI_bad hi2 hx ew
     generalize within3 x 1 1000000=w at *
     refine ix_at hr1 ?_ ?_
     (show (0:Int)≤(↑p:Int); omega)
     refine And.intro rfl ?_
     refine brk_lt (fun t6=>?_) (fun t6=>?_)
     refine ix_at hr1 ?_ ?_
     (show (0:Int)≤(↑p:Int); omega)
     refine ix_at hx1 ?_ ?_
     (show (0:Int)≤(↑j:Int); omega)
     refine Exists.intro _ (And.intro c23_ ?_)
     refine And.intro rfl ?_
     refine brk_ne (fun t7=>?_) (fun t7=>?_)
     rotate_left
     (exfalso; omega)
     (exfalso; omega)
     all_goals exact fin4 _ eb ew
   ·have s1:R=0:=scanI_end hi2 (by omega)
    refine ix_at hr1 ?_ ?_
    (show (0:Int)≤(↑p:Int); omega)
    refine And.intro rfl ?_
    refine brk_lt (fun t6=>?_) (fun t6=>?_)
    (exfalso; omega)
    refine ar_add ?_ ?_
    refine And.intro ?_ ?_
    (show (-9223372036854775808:Int)≤(↑p:Int)+(1:Int); omega)
    (show (↑p:Int)+(1:Int)≤(9223372036854775807:Int); omega)
    rotate_left
    all_goals exact fin3 s1
  ·have s2:S2=0:=scanI_end hi (by omega)
   rw [orE_r s2] at hc
   clear hi hS2
   have c23_1:=c62 t.mg 1 100
   have c23_2:=c62 t.mx 1 1000000
   have c21_3:=g2r (within3 t.mg 1 100) (within3 t.mx 1 1000000) (E:=E3) hE3
   generalize within3 t.mg 1 100=w1 at *
   generalize within3 t.mx 1 1000000=w2 at *
   by_cases e3:E3=0
   rotate_left
   ·refine And.intro rfl ?_
    refine brk_lt (fun t4=>?_) (fun t4=>?_)
    (exfalso; omega)
    refine Exists.intro _ (And.intro c23_1 ?_)
    refine Exists.intro _ (And.intro c23_2 ?_)
    refine And.intro rfl ?_
    refine And.intro rfl ?_
    refine Exists.intro _ (And.intro c21_3 ?_)
    refine And.intro rfl ?_
    refine brk_ne (fun t5=>?_) (fun t5=>?_)
    rotate_left
    (exfalso; omega)
    all_goals exact fin E3 (hc.trans (orE_l e3))
   rw [orE_r e3] at hc
   refine And.intro rfl ?_
   refine brk_lt (fun t4=>?_) (fun t4=>?_)
   (exfalso; omega)
   refine Exists.intro _ (And.intro c23_1 ?_)
   refine Exists.intro _ (And.intro c23_2 ?_)
   refine And.intro rfl ?_
   refine And.intro rfl ?_
   refine Exists.intro _ (And.intro c21_3 ?_)
   refine And.intro rfl ?_
   refine brk_ne (fun t5=>?_) (fun t5=>?_)
   (exfalso; omega)
   rotate_left
   refine loop_st (fun k:Nat=>⟨[(1,.ptr 0 0),(11,.d (.int .i64 k))],[.cbox [.slice 1 (ints t.sg),.slice 1 (rws t.nz),.int .i64 t.mg,.int .i64 t.mx,.slice 1 (ints t.nt)],.none,.none,.none,.none]⟩) (fun k=>k≤t.nt.length∧S3=scanI (ntE t.sg.length t.nt) k (t.nt.drop k)) (fun k=>t.nt.length - k) 0 rfl ⟨Nat.zero_le _,hS3⟩ ?_
   intro i hi
   obtain ⟨hi,hi2⟩:=hi
   dsimp only
   by_cases hin:i < t.nt.length
   ·refine Exists.elim (get_lt t.nt (k:=i) hin) fun x hx=>?_
    have hx1:(ints t.nt)[((i:Int)).toNat]?=some (.int .i64 x):=ints_get hx
    obtain ⟨W,hW⟩:∃ v,v=ntE t.sg.length t.nt i x:=⟨_,rfl⟩
    have fin2:W=0→∃ a':Nat,((a'≤t.nt.length∧S3=scanI (ntE t.sg.length t.nt) a' (t.nt.drop a'))∧t.nt.length - a' < t.nt.length - i)∧(⟨[(1,.ptr 0 0),(11,.d (.int .i64 ((i:Int)+1)))],[.cbox [.slice 1 (ints t.sg),.slice 1 (rws t.nz),.int .i64 t.mg,.int .i64 t.mx,.slice 1 (ints t.nt)],.none,.none,.none,.none]⟩:St)=⟨[(1,.ptr 0 0),(11,.d (.int .i64 (a':Nat)))],[.cbox [.slice 1 (ints t.sg),.slice 1 (rws t.nz),.int .i64 t.mg,.int .i64 t.mx,.slice 1 (ints t.nt)],.none,.none,.none,.none]⟩:=fun e=>⟨i+1,⟨⟨by omega,scanI_ok hi2 hx (by rw [← hW]; exact e)⟩,by omega⟩,rfl⟩
    have fin5:¬ W=0→S3=W:=fun e=>by rw [hW] at e ⊢; exact scanI_bad hi2 hx e
    have c24_:CallDet Try.prog 24 [.d (.int .i64 ((ints t.sg).length:Int)),.d (.int .i64 x)] [.int .i64 (idxE t.sg.length x)]:=by rw [hl2]; exact k24 t.sg.length x
    cases i with
    | zero =>
     have c22_5:=c66 false 11
     have c21_4:=g2r (idxE t.sg.length x) (bif false then 11 else 0) (E:=W) (by rw [hW]; rfl)
     generalize idxE (t.sg.length:Int) x=w at *
     by_cases ew:W=0
     ·refine And.intro rfl ?_
      refine brk_lt (fun t6=>?_) (fun t6=>?_)
      refine ix_at hx1 ?_ ?_
      (show (0:Int)≤(↑(0:Nat):Int); omega)
      refine Exists.intro _ (And.intro c24_ ?_)
      refine And.intro rfl ?_
      refine And.intro rfl ?_
      refine Exists.intro _ (And.intro c22_5 ?_)
      refine And.intro rfl ?_
      refine And.intro rfl ?_
      refine Exists.intro _ (And.intro c21_4 ?_)
      refine And.intro rfl ?_
      refine brk_ne (fun t7=>?_) (fun t7=>?_)
      (exfalso; omega)
      refine ar_add ?_ ?_
      refine And.intro ?_ ?_
      (show (-9223372036854775808:Int)≤(↑(0:Nat):Int)+(1:Int); omega)
      (show (↑(0:Nat):Int)+(1:Int)≤(9223372036854775807:Int); omega)
      rotate_left
      (exfalso; omega)
      all_goals exact fin2 ew
     ·refine And.intro rfl ?_
      refine brk_lt (fun t6=>?_) (fun t6=>?_)
      refine ix_at hx1 ?_ ?_
      (show (0:Int)≤(↑(0:Nat):Int); omega)
      refine Exists.intro _ (And.intro c24_ ?_)
      refine And.intro rfl ?_
      refine And.intro rfl ?_
      refine Exists.intro _ (And.intro c22_5 ?_)
      refine And.intro rfl ?_
      refine And.intro rfl ?_
      refine Exists.intro _ (And.intro c21_4 ?_)
      refine And.intro rfl ?_
      refine brk_ne (fun t7=>?_) (fun t7=>?_)
      rotate_left
      (exfalso; omega)
      (exfalso; omega)
      all_goals exact fin _ (hc.trans (fin5 ew))
    | succ i =>
     refine Exists.elim (get_lt t.nt (k:=i) (by omega)) fun y hy=>?_
     have hy1:(ints t.nt)[(max 0 (((i+1:Nat):Int) - 1)).toNat]?=some (.int .i64 y):=by
      rw [show max 0 (((i+1:Nat):Int) - 1)=(i:Int) by omega]; exact ints_get hy
     have c22_5:=c66 (decide (x≤y)) 11
     have c21_4:=g2r (idxE t.sg.length x) (bif decide (x≤y) then 11 else 0) (E:=W) (by
      rw [hW]; unfold ntE
      rw [decide_eq_true (show 0 < ((i+1:Nat):Int) by omega),show lastN t.nt (i+1)=y by show t.nt[i]?.getD 0=y; rw [hy]; rfl]; rfl)
     generalize idxE (t.sg.length:Int) x=w at *
     by_cases ew:W=0
     ·refine And.intro rfl ?_
      refine brk_lt (fun t6=>?_) (fun t6=>?_)
      refine ix_at hx1 ?_ ?_
      (show (0:Int)≤(↑(i+(1:Nat)):Int); omega)
      refine Exists.intro _ (And.intro c24_ ?_)
      refine And.intro rfl ?_
      refine brk_lt (fun t7=>?_) (fun t7=>?_)
      refine ix_at hx1 ?_ ?_
      (show (0:Int)≤(↑(i+(1:Nat)):Int); omega)
      refine ar_sub ?_ ?_
      refine And.intro ?_ ?_
      (show (-9223372036854775808:Int)≤(↑(i+(1:Nat)):Int) - (1:Int); omega)
      (show (↑(i+(1:Nat)):Int) - (1:Int)≤(9223372036854775807:Int); omega)
      refine And.intro rfl ?_
      refine ix_at hy1 ?_ ?_
      (show (0:Int)≤max (0:Int) ((↑(i+(1:Nat)):Int) - (1:Int)); omega)
      refine And.intro rfl ?_
      refine Exists.intro _ (And.intro c22_5 ?_)
      refine And.intro rfl ?_
      refine And.intro rfl ?_
      refine Exists.intro _ (And.intro c21_4 ?_)
      refine And.intro rfl ?_
      refine brk_ne (fun t8=>?_) (fun t8=>?_)
      (exfalso; omega)
      refine ar_add ?_ ?_
      refine And.intro ?_ ?_
      (show (-9223372036854775808:Int)≤(↑(i+(1:Nat)):Int)+(1:Int); omega)
      (show (↑(i+(1:Nat)):Int)+(1:Int)≤(9223372036854775807:Int); omega)
      rotate_left
      (exfalso; omega)
      (exfalso; omega)
      all_goals exact fin2 ew
     ·refine And.intro rfl ?_
      refine brk_lt (fun t6=>?_) (fun t6=>?_)
      refine ix_at hx1 ?_ ?_
      (show (0:Int)≤(↑(i+(1:Nat)):Int); omega)
      refine Exists.intro _ (And.intro c24_ ?_)
      refine And.intro rfl ?_
      refine brk_lt (fun t7=>?_) (fun t7=>?_)
      refine ix_at hx1 ?_ ?_
      (show (0:Int)≤(↑(i+(1:Nat)):Int); omega)
      refine ar_sub ?_ ?_
      refine And.intro ?_ ?_
      (show (-9223372036854775808:Int)≤(↑(i+(1:Nat)):Int) - (1:Int); omega)
      (show (↑(i+(1:Nat)):Int) - (1:Int)≤(9223372036854775807:Int); omega)
      refine And.intro rfl ?_
      refine ix_at hy1 ?_ ?_
      (show (0:Int)≤max (0:Int) ((↑(i+(1:Nat)):Int) - (1:Int)); omega)
      refine And.intro rfl ?_
      refine Exists.intro _ (And.intro c22_5 ?_)
      refine And.intro rfl ?_
      refine And.intro rfl ?_
      refine Exists.intro _ (And.intro c21_4 ?_)
      refine And.intro rfl ?_
      refine brk_ne (fun t8=>?_) (fun t8=>?_)
      rotate_left
      (exfalso; omega)
      (exfalso; omega)
      (exfalso; omega)
      all_goals exact fin _ (hc.trans (fin5 ew))
   ·have s3:S3=0:=scanI_end hi2 (by omega)
    refine And.intro rfl ?_
    refine brk_lt (fun t6=>?_) (fun t6=>?_)
    (exfalso; omega)
    rotate_left
    all_goals exact fin 0 (hc.trans s3)
end Vc
