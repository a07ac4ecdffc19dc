import Derived.Test.YtkghjijnlnnfkaaGreatDoorG16
set_option linter.unusedSectionVars false
set_option linter.unusedVariables false
set_option linter.unusedSimpArgs false
set_option maxRecDepth 10000
set_option maxHeartbeats 4000000
namespace Vc
open Go Go.Proofs
def xa114:ACode:=(.reg [] [⟨some 7,.mov (.tmp 13),none⟩])
def xb114 : ACode := (.post [] []
      (.block 1
      (.seq
       (.reg [] [⟨some 15,.ld false 1 (.tmp 2),none⟩,
        ⟨some 16,.mov (.tmp 7),none⟩,
        ⟨some 17,.call 113 [(.tmp 15),(.tmp 16)],none⟩,
        ⟨some 14,.mov (.tmp 17),none⟩,
        ⟨some 18,.ext 0 (.tmp 14),none⟩,
        ⟨some 19,.ext 1 (.tmp 14),none⟩,
        ⟨some 8,.mov (.tmp 18),none⟩,
        ⟨some 9,.mov (.tmp 19),none⟩])
       (.seq
       (.reg [] [⟨some 20,.mov (.tmp 9),none⟩,
        ⟨some 21,.not (.tmp 20),none⟩])
       (.cond (.tmp 21)
        (.seq
        (.reg [] [⟨some 22,.mov (.tmp 7),none⟩,
         ⟨none,.st 1 (.tmp 6) (.tmp 22),none⟩])
        (.exit 0))
        .skip)))))
def jr114:AFun:=⟨26,3,[.tmp 4,.tmp 5],
 (.seq
 (.reg [0] [⟨some 2,.cbx 0 1 (.tmp 0),none⟩,
  ⟨some 4,.mov (.cst (.d (.int .i64 0))),none⟩,
  ⟨some 5,.mov (.cst (.d (.int .i64 0))),none⟩])
 (.scope
  (.seq
  (.reg [1] [⟨some 6,.alloc 1 [(.d (.int .i64 0))],none⟩,
   ⟨none,.st 1 (.tmp 6) (.cst (.d (.int .i64 (-1)))),none⟩])
  (.seq
   .skip
   (.seq
   (.seq
    (.reg [] [⟨some 10,.ld false 1 (.tmp 2),none⟩,
     ⟨some 11,.mov (.tmp 1),none⟩,
     ⟨some 12,.call 145 [(.tmp 10),(.tmp 11)],none⟩])
    (.block 0
    (.keep [2,6,12] [0,1]
     (.rfor 2 (.tmp 12) [13]
     xa114
     xb114))))
   (.seq
    (.seq
    (.reg [] [⟨some 23,.ld false 1 (.tmp 6),none⟩,
     ⟨some 24,.cmp .lss (.tmp 23) (.cst (.d (.int .i64 0))),none⟩])
    (.cond (.tmp 24)
     (.seq
     (.reg [] [⟨some 4,.mov (.cst (.d (.int .i64 0))),none⟩,
      ⟨some 5,.mov (.cst (.d (.int .i64 7))),none⟩])
     .ret)
     .skip))
    (.seq
    (.reg [] [⟨some 25,.ld false 1 (.tmp 6),none⟩,
     ⟨some 4,.mov (.tmp 25),none⟩,
     ⟨some 5,.mov (.cst (.d (.int .i64 0))),none⟩])
    .ret)))))))⟩
def jr145:AFun:=⟨6,2,[.tmp 4],
 (.seq
 (.reg [0,1] [⟨some 2,.cbx 0 1 (.tmp 0),none⟩,
  ⟨some 3,.cbx 1 1 (.tmp 1),none⟩,
  ⟨some 4,.mov (.cst .undef),none⟩])
 (.seq
  (.reg [] [⟨some 5,.mkf (.func 164) [] [(.tmp 3),(.tmp 2)],none⟩,
   ⟨some 4,.mov (.tmp 5),none⟩])
  .ret))⟩
def jr164:AFun:=⟨25,0,[],
 (.seq
 (.reg [] [⟨some 6,.ld false 1 (.tmp 1),none⟩,
  ⟨some 4,.mov (.tmp 6),none⟩,
  ⟨some 5,.mov (.cst (.d (.bool true))),none⟩])
 (.post [] []
  (.block 0
  (.keep [0,1,2,4,5] []
   (.loop
   (.post [0,1,2,4,5] []
    (.seq
    (.seq
     (.reg [] [⟨some 7,.mov (.tmp 5),none⟩,
      ⟨some 8,.mov (.tmp 7),none⟩,
      ⟨some 9,.mov (.tmp 4),some (8,true)⟩,
      ⟨some 10,.ld false 1 (.tmp 1),some (8,true)⟩,
      ⟨some 11,.arith .add .i64 (.tmp 10) (.cst (.d (.int .i64 691200))),some (8,true)⟩,
      ⟨some 12,.mini (.cst (.d (.int .i64 100000000))) (.tmp 11),some (8,true)⟩,
      ⟨some 13,.cmp .leq (.tmp 9) (.tmp 12),some (8,true)⟩,
      ⟨some 14,.pick (.tmp 8) (.tmp 13) (.cst (.d (.bool false))),none⟩])
     (.cond (.tmp 14)
     .skip
     (.exit 0)))
    (.block 1
     (.seq
     (.seq
      (.reg [] [⟨some 15,.mov (.tmp 0),none⟩,
       ⟨some 16,.mov (.tmp 4),none⟩,
       ⟨some 17,.callv (.tmp 15) [(.tmp 16)],none⟩,
       ⟨some 18,.not (.tmp 17),none⟩])
      (.cond (.tmp 18)
      .ret
      .skip))
     (.reg [] [⟨some 20,.ld false 1 (.tmp 2),none⟩,
      ⟨some 21,.mov (.tmp 4),none⟩,
      ⟨some 22,.call 113 [(.tmp 20),(.tmp 21)],none⟩,
      ⟨some 19,.mov (.tmp 22),none⟩,
      ⟨some 23,.ext 0 (.tmp 19),none⟩,
      ⟨some 24,.ext 1 (.tmp 19),none⟩,
      ⟨some 4,.mov (.tmp 23),none⟩,
      ⟨some 5,.mov (.tmp 24),none⟩]))))))))))⟩
def jr48:AFun:=⟨21,1,[.tmp 4,.tmp 5],
 (.seq
 (.reg [] [⟨some 4,.mov (.cst (.d (.int .i64 0))),none⟩,
  ⟨some 5,.mov (.cst (.d (.int .i64 0))),none⟩])
 (.seq
  (.seq
  (.reg [0] [⟨some 7,.mov (.tmp 0),none⟩,
   ⟨some 8,.call 55 [(.tmp 7)],none⟩,
   ⟨some 9,.mov (.tmp 1),none⟩,
   ⟨some 10,.call 112 [(.tmp 9)],none⟩,
   ⟨some 11,.bsl 0 30 1 2 [(.int .i64 0),(.int .i64 0)] [(0,(.tmp 8)),(1,(.tmp 10))],none⟩,
   ⟨some 12,.call 90 [(.tmp 11)],none⟩,
   ⟨some 6,.mov (.tmp 12),none⟩])
  (.seq
   (.reg [] [⟨some 13,.mov (.tmp 6),none⟩,
    ⟨some 14,.cmp .neq (.tmp 13) (.cst (.d (.int .i64 0))),none⟩])
   (.cond (.tmp 14)
   (.seq
    (.reg [] [⟨some 15,.mov (.tmp 6),none⟩,
     ⟨some 4,.mov (.cst (.d (.int .i64 0))),none⟩,
     ⟨some 5,.mov (.tmp 15),none⟩])
    .ret)
   .skip)))
  (.seq
  (.reg [] [⟨some 16,.mov (.tmp 0),none⟩,
   ⟨some 17,.mov (.tmp 1),none⟩,
   ⟨some 18,.call 114 [(.tmp 16),(.tmp 17)],none⟩,
   ⟨some 19,.ext 0 (.tmp 18),none⟩,
   ⟨some 20,.ext 1 (.tmp 18),none⟩,
   ⟨some 4,.mov (.tmp 19),none⟩,
   ⟨some 5,.mov (.tmp 20),none⟩])
  .ret)))⟩
def jr49:AFun:=⟨44,2,[.tmp 8,.tmp 9],
 (.seq
 (.reg [0] [⟨some 4,.cbx 0 22 (.tmp 0),none⟩,
  ⟨some 8,.mov (.cst (.d (.int .i64 0))),none⟩,
  ⟨some 9,.mov (.cst (.d (.int .i64 0))),none⟩])
 (.seq
  (.seq
  (.reg [1] [⟨some 13,.ld true 22 (.tmp 4),none⟩,
   ⟨some 14,.call 25 [(.tmp 13)],none⟩,
   ⟨some 15,.mov (.tmp 1),none⟩,
   ⟨some 16,.call 55 [(.tmp 15)],none⟩,
   ⟨some 17,.mov (.tmp 2),none⟩,
   ⟨some 18,.call 112 [(.tmp 17)],none⟩,
   ⟨some 19,.mov (.tmp 3),none⟩,
   ⟨some 20,.call 91 [(.tmp 19),(.cst (.d (.int .i64 1))),(.cst (.d (.int .i64 100000)))],none⟩,
   ⟨some 21,.bsl 1 30 1 4 [(.int .i64 0),(.int .i64 0),(.int .i64 0),(.int .i64 0)] [(0,(.tmp 14)),(1,(.tmp 16)),(2,(.tmp 18)),(3,(.tmp 20))],none⟩,
   ⟨some 22,.call 90 [(.tmp 21)],none⟩,
   ⟨some 10,.mov (.tmp 22),none⟩])
  (.seq
   (.reg [] [⟨some 23,.mov (.tmp 10),none⟩,
    ⟨some 24,.cmp .neq (.tmp 23) (.cst (.d (.int .i64 0))),none⟩])
   (.cond (.tmp 24)
   (.seq
    (.reg [] [⟨some 25,.mov (.tmp 10),none⟩,
     ⟨some 8,.mov (.cst (.d (.int .i64 0))),none⟩,
     ⟨some 9,.mov (.tmp 25),none⟩])
    .ret)
   .skip)))
  (.seq
  (.reg [] [⟨some 26,.mov (.tmp 2),none⟩,
   ⟨some 11,.mov (.tmp 26),none⟩])
  (.seq
   (.seq
   (.reg [] [⟨some 27,.ld true 22 (.tmp 4),none⟩,
    ⟨some 28,.call 95 [(.tmp 27)],none⟩,
    ⟨some 12,.mov (.tmp 28),none⟩])
   (.seq
    (.reg [] [⟨some 29,.mov (.tmp 12),none⟩,
     ⟨some 30,.cmp .geq (.tmp 29) (.cst (.d (.int .i64 0))),none⟩])
    (.cond (.tmp 30)
    (.reg [] [⟨some 31,.mov (.tmp 2),none⟩,
     ⟨some 32,.mov (.tmp 12),none⟩,
     ⟨some 33,.mov (.tmp 3),none⟩,
     ⟨some 34,.arith .quo .i64 (.tmp 32) (.tmp 33),none⟩,
     ⟨some 35,.arith .add .i64 (.tmp 31) (.tmp 34),none⟩,
     ⟨some 36,.arith .add .i64 (.tmp 35) (.cst (.d (.int .i64 1))),none⟩,
     ⟨some 11,.mov (.tmp 36),none⟩])
    .skip)))
   (.seq
   (.seq
    (.reg [] [⟨some 37,.mov (.tmp 11),none⟩,
     ⟨some 38,.cmp .gtr (.tmp 37) (.cst (.d (.int .i64 100000000))),none⟩])
    (.cond (.tmp 38)
    (.seq
     (.reg [] [⟨some 8,.mov (.cst (.d (.int .i64 0))),none⟩,
      ⟨some 9,.mov (.cst (.d (.int .i64 7))),none⟩])
     .ret)
    .skip))
   (.seq
    (.reg [] [⟨some 39,.mov (.tmp 1),none⟩,
     ⟨some 40,.mov (.tmp 11),none⟩,
     ⟨some 41,.call 114 [(.tmp 39),(.tmp 40)],none⟩,
     ⟨some 42,.ext 0 (.tmp 41),none⟩,
     ⟨some 43,.ext 1 (.tmp 41),none⟩,
     ⟨some 8,.mov (.tmp 42),none⟩,
     ⟨some 9,.mov (.tmp 43),none⟩])
    .ret))))))⟩
def sl114 (l:List Hr) (t:Int):List (Nat × AVal):=[(2,.ptr 0 0),(6,.ptr 1 0),(12,.d (.fn (.func 164) [.agg [.int .i64 t],.agg [.slice 9 (hrs l)]]))]
noncomputable def lp114 (s:LoopState) (pd:Option AJump) (l:List Hr) (t:Int):AObj:=.lp s pd 26 (sl114 l t) [13] xa114 xb114 (ckP Tryz.prog 26 xa114 xb114)
section
variable {l : List Hr} {t : Int}
theorem y114a (x:Int) (hl:l.length≤1048576) (hg:∀ h∈l,h.ok) (h0:0≤x) (h1:x≤1000000000) (hp:prL l x=true):YieldIn Tryz.prog 2 [.d (.int .i64 x)] [.cbox [.slice 9 (hrs l)],.box [.d (.int .i64 (-1))],(lp114 .ready none l t)] (.d (.bool true)) [.cbox [.slice 9 (hrs l)],.box [.d (.int .i64 (-1))],(lp114 .ready none l t)]:=by
 have c113_:=c113 l x hl h0 h1 hg
 rw [hp] at c113_
 refine yieldIn_of_vc (m:=26) (ps:=[13]) (xa:=xa114) (xb:=xb114) (sl:=sl114 l t) rfl rfl rfl rfl rfl rfl ?_
 refine ca c113_ ?_
 refine sd ?_
 exact rfl
theorem y114d (x:Int) (hl:l.length≤1048576) (hg:∀ h∈l,h.ok) (h0:0≤x) (h1:x≤1000000000) (hp:prL l x=false):YieldIn Tryz.prog 2 [.d (.int .i64 x)] [.cbox [.slice 9 (hrs l)],.box [.d (.int .i64 (-1))],(lp114 .ready none l t)] (.d (.bool false)) [.cbox [.slice 9 (hrs l)],.box [.d (.int .i64 (x))],(lp114 .done (some (.exit 0)) l t)]:=by
 have c113_:=c113 l x hl h0 h1 hg
 rw [hp] at c113_
 refine yieldIn_of_vc (m:=26) (ps:=[13]) (xa:=xa114) (xb:=xb114) (sl:=sl114 l t) rfl rfl rfl rfl rfl rfl ?_
 refine ca c113_ ?_
 refine sd ?_
 exact rfl
noncomputable def endF (l:List Hr) (t:Int):List AObj:=bif decide (frA l t < 0) then [.cbox [.slice 9 (hrs l)],.box [.d (.int .i64 (-1))],(lp114 .ready none l t)] else [.cbox [.slice 9 (hrs l)],.box [.d (.int .i64 (frA l t))],(lp114 .done (some (.exit 0)) l t)]
theorem endF_n (h:frA l t=-1):endF l t=[.cbox [.slice 9 (hrs l)],.box [.d (.int .i64 (-1))],(lp114 .ready none l t)]:=by unfold endF; rw [h]; rfl
theorem endF_s {x:Int} (h:frA l t=x) (h0:0≤x):endF l t=[.cbox [.slice 9 (hrs l)],.box [.d (.int .i64 (x))],(lp114 .done (some (.exit 0)) l t)]:=by unfold endF; rw [h,decide_eq_false (by omega)]; rfl
theorem endF_len:(endF l t).length=3:=by
 unfold endF
 cases decide (frA l t < 0) <;> rfl
theorem i164 (hl:l.length≤1048576) (hg:∀ h∈l,h.ok) (h0:0≤t) (h1:t≤100000000):CallIn Tryz.prog 164 [.yld 2,.cp [.int .i64 t] 0,.cp [.slice 9 (hrs l)] 0] [.cbox [.slice 9 (hrs l)],.box [.d (.int .i64 (-1))],(lp114 .ready none l t)] (.tup []) (endF l t):=by
 refine callIn_of_vc 3 (x:=jr164) (by kernel_rfl) rfl rfl endF_len ?_
 rotate_left
 refine loop_st (fun x:Int=>⟨[(0,.yld 2),(1,.cp [.int .i64 t] 0),(2,.cp [.slice 9 (hrs l)] 0),(4,.d (.int .i64 (x))),(5,.d (.bool true))],[.cbox [.slice 9 (hrs l)],.box [.d (.int .i64 (-1))],(lp114 .ready none l t)]⟩) (fun x=>(t≤x∧x≤200000000)∧∀ u,t≤u→u < x→prL l u=true) (fun x=>(200000000 - x).toNat) t rfl ⟨⟨Int.le_refl _,by omega⟩,fun u h1 h2=>by omega⟩ ?_
 rintro x ⟨⟨hx1,hx2⟩,hq⟩
 dsimp only
 by_cases hc:x≤min 100000000 (t+691200)
 ·have c113_:=c113 l x hl (by omega) (by omega) hg
  cases hp:prL l x with
  | true =>
   rw [hp] at c113_
   have hn:=nx_prot hg (by omega) hp
   have fin:∃ a':Int,(((t≤a'∧a'≤200000000)∧∀ u,t≤u→u < a'→prL l u=true)∧(200000000 - a').toNat < (200000000 - x).toNat)∧(⟨[(0,.yld 2),(1,.cp [.int .i64 t] 0),(2,.cp [.slice 9 (hrs l)] 0),(4,.d (.int .i64 (nx x l x))),(5,.d (.bool true))],[.cbox [.slice 9 (hrs l)],.box [.d (.int .i64 (-1))],(lp114 .ready none l t)]⟩:St)=⟨[(0,.yld 2),(1,.cp [.int .i64 t] 0),(2,.cp [.slice 9 (hrs l)] 0),(4,.d (.int .i64 (a'))),(5,.d (.bool true))],[.cbox [.slice 9 (hrs l)],.box [.d (.int .i64 (-1))],(lp114 .ready none l t)]⟩:=⟨_,⟨⟨⟨by omega,by omega⟩,fun u h3 h4=>by
    by_cases h5:u < x
    ·exact hq u h3 h5
    ·exact hn.2 u (by omega) h4⟩,by omega⟩,rfl⟩
   have hy:=y114a (t:=t) x hl hg (by omega) (by omega) hp
   refine ar_add ?_ ?_
   refine an ?_ ?_
   (show (-9223372036854775808:Int)≤t+(691200:Int); omega)
   (show t+(691200:Int)≤(9223372036854775807:Int); omega)
   refine sd ?_
   refine sd ?_
   refine b_le (fun t1=>?_) (fun t1=>?_)
   rotate_left
   (exfalso; omega)
   refine Exists.intro (.d (.bool true)) (Exists.intro [] (And.intro hy ?_))
   refine ca c113_ ?_
   rotate_left
   all_goals exact fin
  | false =>
   have he:endF l t=_:=endF_s (frA_some h0 hq hx1 (by omega) (by omega) hp) (by omega)
   have hy:=y114d (t:=t) x hl hg (by omega) (by omega) hp
   rw [he]
   refine ar_add ?_ ?_
   refine an ?_ ?_
   (show (-9223372036854775808:Int)≤t+(691200:Int); omega)
   (show t+(691200:Int)≤(9223372036854775807:Int); omega)
   refine sd ?_
   refine sd ?_
   refine b_le (fun t1=>?_) (fun t1=>?_)
   rotate_left
   (exfalso; omega)
   refine Exists.intro (.d (.bool false)) (Exists.intro [(1,.box [.d (.int .i64 x)]),(2,(lp114 .done (some (.exit 0)) l t))] (And.intro hy ?_))
   refine sd ?_
   exact rfl
 ·have he:endF l t=_:=endF_n (frA_none h0 hq hx1 (by omega))
  rw [he]
  refine ar_add ?_ ?_
  refine an ?_ ?_
  (show (-9223372036854775808:Int)≤t+(691200:Int); omega)
  (show t+(691200:Int)≤(9223372036854775807:Int); omega)
  refine sd ?_
  refine sd ?_
  refine b_le (fun t1=>?_) (fun t1=>?_)
  (exfalso; omega)
  refine sd ?_
  exact rfl
end
theorem c145 (l:List Hr) (t:Int):CallDet Tryz.prog 145 [.d (.slice 9 (hrs l)),.d (.int .i64 t)] [(.fn (.func 164) [.agg [.int .i64 t],.agg [.slice 9 (hrs l)]])]:=by
 refine call_of_vc (x:=jr145) (by kernel_rfl) rfl ?_
 exact rfl
theorem c114 (l:List Hr) (t:Int) (hl:l.length≤1048576) (hg:∀ h∈l,h.ok) (h0:0≤t) (h1:t≤100000000):CallDet Tryz.prog 114 [.d (.slice 9 (hrs l)),.d (.int .i64 t)] (bif decide (frA l t < 0) then [.int .i64 0,.int .i64 7] else [.int .i64 (frA l t),.int .i64 0]):=by
 have c145_:=c145 l t
 have i164_:=i164 hl hg h0 h1
 by_cases hf:frA l t < 0
 ·rw [decide_eq_true hf]
  have he:endF l t=[.cbox [.slice 9 (hrs l)],.box [.d (.int .i64 (-1))],(lp114 .ready none l t)]:=by unfold endF; rw [decide_eq_true hf]; rfl
  rw [he] at i164_
  refine call_of_vc (x:=jr114) (by kernel_rfl) rfl ?_
  refine ca c145_ ?_
  rotate_left
  refine Exists.intro (.tup []) (Exists.intro _ (And.intro i164_ ?_))
  refine And.intro (by intro h; cases h) ?_
  refine sd ?_
  exact rfl
 ·rw [decide_eq_false hf]
  have he:endF l t=[.cbox [.slice 9 (hrs l)],.box [.d (.int .i64 (frA l t))],(lp114 .done (some (.exit 0)) l t)]:=by unfold endF; rw [decide_eq_false hf]; rfl
  rw [he] at i164_
  refine call_of_vc (x:=jr114) (by kernel_rfl) rfl ?_
  refine ca c145_ ?_
  rotate_left
  refine Exists.intro (.tup []) (Exists.intro _ (And.intro i164_ ?_))
  refine And.intro (by intro h; cases h) ?_
  refine sd ?_
  refine b_lt (fun t1=>?_) (fun t1=>?_)
  (exfalso; omega)
  exact rfl
def frE (l:List Hr) (t:Int):Int:=firstOf [ckH l,within3 t 0 100000000]
theorem frE_0 {l:List Hr} {t:Int} (h:frE l t=0):ckH l=0∧(l.length≤16∧∀ h∈l,h.ok)∧0≤t∧t≤100000000:=by
 have h1:=firstOf_zero h (ckH l) (by simp)
 have h2:=within_ok (firstOf_zero h (within3 t 0 100000000) (by simp))
 exact ⟨h1,ckH_ok h1,h2⟩
theorem c46 (l:List Hr) (t:Int) (hl:l.length≤1048576):CallDet Tryz.prog 46 [.d (.slice 9 (hrs l)),.d (.int .i64 t)] (bif frE l t != 0 then [.bool false,.int .i64 (frE l t)] else [.bool (prL l t),.int .i64 0]):=by
 have c55_:=c55 l hl
 have c112_:=c112 t
 have c90_:CallDet Tryz.prog 90 [.d (.slice 1 [.int .i64 (ckH l),.int .i64 (within3 t 0 100000000)])] [.int .i64 (frE l t)]:=c90 [ckH l,within3 t 0 100000000] (by simp)
 by_cases h:frE l t=0
 ·obtain ⟨_,hh,h0,h1⟩:=frE_0 h
  have c113_:=c113 l t hl h0 (by omega) hh.2
  rw [h] at c90_ ⊢
  refine call_of_vc (x:=jr46) (by kernel_rfl) rfl ?_
  refine ca c55_ ?_
  refine ca c112_ ?_
  refine sd ?_
  refine sd ?_
  refine ca c90_ ?_
  refine sd ?_
  refine ca c113_ ?_
  exact rfl
 ·rw [bne_t h]
  refine call_of_vc (x:=jr46) (by kernel_rfl) rfl ?_
  refine ca c55_ ?_
  refine ca c112_ ?_
  refine sd ?_
  refine sd ?_
  refine ca c90_ ?_
  refine sd ?_
  refine b_ne (fun t1=>?_) (fun t1=>?_)
  exact rfl
  (exfalso; omega)
theorem c48 (l:List Hr) (t:Int) (hl:l.length≤1048576):CallDet Tryz.prog 48 [.d (.slice 9 (hrs l)),.d (.int .i64 t)] (bif frE l t != 0 then [.int .i64 0,.int .i64 (frE l t)] else (bif decide (frA l t < 0) then [.int .i64 0,.int .i64 7] else [.int .i64 (frA l t),.int .i64 0])):=by
 have c55_:=c55 l hl
 have c112_:=c112 t
 have c90_:CallDet Tryz.prog 90 [.d (.slice 1 [.int .i64 (ckH l),.int .i64 (within3 t 0 100000000)])] [.int .i64 (frE l t)]:=c90 [ckH l,within3 t 0 100000000] (by simp)
 by_cases h:frE l t=0
 ·obtain ⟨_,hh,h0,h1⟩:=frE_0 h
  have c114_:=c114 l t hl hh.2 h0 h1
  rw [h] at c90_ ⊢
  by_cases hf:frA l t < 0
  ·rw [decide_eq_true hf] at c114_ ⊢
   refine call_of_vc (x:=jr48) (by kernel_rfl) rfl ?_
   refine ca c55_ ?_
   refine ca c112_ ?_
   refine sd ?_
   refine sd ?_
   refine ca c90_ ?_
   refine sd ?_
   refine ca c114_ ?_
   exact rfl
  ·rw [decide_eq_false hf] at c114_ ⊢
   refine call_of_vc (x:=jr48) (by kernel_rfl) rfl ?_
   refine ca c55_ ?_
   refine ca c112_ ?_
   refine sd ?_
   refine sd ?_
   refine ca c90_ ?_
   refine sd ?_
   refine ca c114_ ?_
   exact rfl
 ·rw [bne_t h]
  refine call_of_vc (x:=jr48) (by kernel_rfl) rfl ?_
  refine ca c55_ ?_
  refine ca c112_ ?_
  refine sd ?_
  refine sd ?_
  refine ca c90_ ?_
  refine sd ?_
  refine b_ne (fun t1=>?_) (fun t1=>?_)
  exact rfl
  (exfalso; omega)
def ctT (a:Ac) (t u:Int):Int:=bif decide (0≤a.b+a.e) then t+(a.b+a.e) / u+1 else t
def ctE (a:Ac) (c:Bool) (l:List Hr) (t u:Int):Int:=firstOf [ckA a c,ckH l,within3 t 0 100000000,within3 u 1 100000]
def ctR (a:Ac) (l:List Hr) (t u:Int):List Data:=bif decide (100000000 < ctT a t u)||decide (frA l (ctT a t u) < 0) then [.int .i64 0,.int .i64 7] else [.int .i64 (frA l (ctT a t u)),.int .i64 0]
theorem ctE_0 {a:Ac} {c:Bool} {l:List Hr} {t u:Int} (h:ctE a c l t u=0):ckA a c=0∧ckH l=0∧(0≤t∧t≤100000000)∧1≤u∧u≤100000 :=
 ⟨firstOf_zero h (ckA a c) (by simp),firstOf_zero h (ckH l) (by simp),within_ok (firstOf_zero h (within3 t 0 100000000) (by simp)),within_ok (firstOf_zero h (within3 u 1 100000) (by simp))⟩
theorem div_b {n u:Int} (h0:0≤n) (h1:n≤1000100000000) (hu:1≤u):0≤n / u∧n / u≤1000100000000:=by
 refine ⟨Int.ediv_nonneg h0 (by omega),?_⟩
 have:=Int.ediv_le_self u h0
 omega
theorem c49 (a:Ac) (c:Bool) (l:List Hr) (t u:Int) (hla:a.u.length≤1048576) (hl:l.length≤1048576):CallDet Tryz.prog 49 [.d (.agg [.int .i64 (a.b),.int .i64 (a.d),.int .i64 a.s,.int .i64 a.e,.int .u8 a.k.a,.int .u8 a.k.b,.int .u8 a.k.c,.int .u8 a.k.d,.int .u8 a.k.e,.int .u8 a.k.f,.int .u8 a.k.g,.int .u8 a.k.h,.int .u8 a.n.a,.int .u8 a.n.b,.int .u8 a.n.c,.int .u8 a.n.d,.int .u8 a.n.e,.int .u8 a.n.f,.int .u8 a.n.g,.int .u8 a.n.h,.bool c,.slice 1 (ints a.u)]),.d (.slice 9 (hrs l)),.d (.int .i64 t),.d (.int .i64 u)] (bif ctE a c l t u != 0 then [.int .i64 0,.int .i64 (ctE a c l t u)] else ctR a l t u):=by
 have c25_:=c25 a c hla
 have c55_:=c55 l hl
 have c112_:=c112 t
 have c91_:=c91 u 1 100000
 have c90_:CallDet Tryz.prog 90 [.d (.slice 1 [.int .i64 (ckA a c),.int .i64 (ckH l),.int .i64 (within3 t 0 100000000),.int .i64 (within3 u 1 100000)])] [.int .i64 (ctE a c l t u)]:=c90 [ckA a c,ckH l,within3 t 0 100000000,within3 u 1 100000] (by simp)
 by_cases h:ctE a c l t u=0
 ·rw [h] at c90_
  rw [show (bif ctE a c l t u != 0 then [.int .i64 0,.int .i64 (ctE a c l t u)] else ctR a l t u)=ctR a l t u from by rw [h]; rfl]
  obtain ⟨hA,hH,⟨h0,h1⟩,hu⟩:=ctE_0 h
  obtain ⟨hb1,hb2⟩:=ckA_b hA
  have hg:=(ckH_ok hH).2
  have c95_:=c95 a c (by omega) (by omega)
  unfold ctR
  by_cases hn:0≤a.b+a.e
  ·have et:ctT a t u=t+(a.b+a.e) / u+1:=by unfold ctT; rw [decide_eq_true hn]; rfl
   have hd:=div_b hn (by omega) hu.1
   by_cases hm:100000000 < ctT a t u
   ·rw [decide_eq_true hm]
    rw [et] at hm
    refine call_of_vc (x:=jr49) (by kernel_rfl) rfl ?_
    refine ca c25_ ?_
    refine ca c55_ ?_
    refine ca c112_ ?_
    refine ca c91_ ?_
    refine sd ?_
    refine sd ?_
    refine ca c90_ ?_
    refine sd ?_
    refine ca c95_ ?_
    refine sd ?_
    refine b_le (fun t1=>?_) (fun t1=>?_)
    refine ar_quo ?_ ?_
    refine an ?_ ?_
    assumption
    refine an ?_ ?_
    (show Ac.b a+Ac.e a≤(9223372036854775807:Int); omega)
    (show (1:Int)≤u; omega)
    refine ar_add ?_ ?_
    refine an ?_ ?_
    (show (-9223372036854775808:Int)≤t+(Ac.b a+Ac.e a) / u; omega)
    (show t+(Ac.b a+Ac.e a) / u≤(9223372036854775807:Int); omega)
    refine ar_add ?_ ?_
    refine an ?_ ?_
    (show (-9223372036854775808:Int)≤t+(Ac.b a+Ac.e a) / u+(1:Int); omega)
    (show t+(Ac.b a+Ac.e a) / u+(1:Int)≤(9223372036854775807:Int); omega)
    refine sd ?_
    refine b_lt (fun t2=>?_) (fun t2=>?_)
    exact rfl
    (exfalso; omega)
    (exfalso; omega)
   ·rw [decide_eq_false hm]
    have c114_:=c114 l (ctT a t u) hl hg (by rw [et]; omega) (by omega)
    by_cases hf:frA l (ctT a t u) < 0
    ·rw [decide_eq_true hf] at c114_ ⊢
     rw [et] at hm hf c114_
     refine call_of_vc (x:=jr49) (by kernel_rfl) rfl ?_
     refine ca c25_ ?_
     refine ca c55_ ?_
     refine ca c112_ ?_
     refine ca c91_ ?_
     refine sd ?_
     refine sd ?_
     refine ca c90_ ?_
     refine sd ?_
     refine ca c95_ ?_
     refine sd ?_
     refine b_le (fun t1=>?_) (fun t1=>?_)
     refine ar_quo ?_ ?_
     refine an ?_ ?_
     assumption
     refine an ?_ ?_
     (show Ac.b a+Ac.e a≤(9223372036854775807:Int); omega)
     (show (1:Int)≤u; omega)
     refine ar_add ?_ ?_
     refine an ?_ ?_
     (show (-9223372036854775808:Int)≤t+(Ac.b a+Ac.e a) / u; omega)
     (show t+(Ac.b a+Ac.e a) / u≤(9223372036854775807:Int); omega)
     refine ar_add ?_ ?_
     refine an ?_ ?_
     (show (-9223372036854775808:Int)≤t+(Ac.b a+Ac.e a) / u+(1:Int); omega)
     (show t+(Ac.b a+Ac.e a) / u+(1:Int)≤(9223372036854775807:Int); omega)
     refine sd ?_
     refine b_lt (fun t2=>?_) (fun t2=>?_)
     (exfalso; omega)
     refine ca c114_ ?_
     exact rfl
     (exfalso; omega)
    ·rw [decide_eq_false hf] at c114_ ⊢
     rw [et] at hm hf c114_ ⊢
     refine call_of_vc (x:=jr49) (by kernel_rfl) rfl ?_
     refine ca c25_ ?_
     refine ca c55_ ?_
     refine ca c112_ ?_
     refine ca c91_ ?_
     refine sd ?_
     refine sd ?_
     refine ca c90_ ?_
     refine sd ?_
     refine ca c95_ ?_
     refine sd ?_
     refine b_le (fun t1=>?_) (fun t1=>?_)
     refine ar_quo ?_ ?_
     refine an ?_ ?_
     assumption
     refine an ?_ ?_
     (show Ac.b a+Ac.e a≤(9223372036854775807:Int); omega)
     (show (1:Int)≤u; omega)
     refine ar_add ?_ ?_
     refine an ?_ ?_
     (show (-9223372036854775808:Int)≤t+(Ac.b a+Ac.e a) / u; omega)
     (show t+(Ac.b a+Ac.e a) / u≤(9223372036854775807:Int); omega)
     refine ar_add ?_ ?_
     refine an ?_ ?_
     (show (-9223372036854775808:Int)≤t+(Ac.b a+Ac.e a) / u+(1:Int); omega)
     (show t+(Ac.b a+Ac.e a) / u+(1:Int)≤(9223372036854775807:Int); omega)
     refine sd ?_
     refine b_lt (fun t2=>?_) (fun t2=>?_)
     (exfalso; omega)
     refine ca c114_ ?_
     exact rfl
     (exfalso; omega)
  ·have et:ctT a t u=t:=by unfold ctT; rw [decide_eq_false hn]; rfl
   have c114_:=c114 l t hl hg h0 h1
   rw [et,decide_eq_false (show ¬ 100000000 < t by omega)]
   by_cases hf:frA l t < 0
   ·rw [decide_eq_true hf] at c114_ ⊢
    refine call_of_vc (x:=jr49) (by kernel_rfl) rfl ?_
    refine ca c25_ ?_
    refine ca c55_ ?_
    refine ca c112_ ?_
    refine ca c91_ ?_
    refine sd ?_
    refine sd ?_
    refine ca c90_ ?_
    refine sd ?_
    refine ca c95_ ?_
    refine sd ?_
    refine b_le (fun t1=>?_) (fun t1=>?_)
    (exfalso; omega)
    refine sd ?_
    refine b_lt (fun t2=>?_) (fun t2=>?_)
    (exfalso; omega)
    refine ca c114_ ?_
    exact rfl
   ·rw [decide_eq_false hf] at c114_ ⊢
    refine call_of_vc (x:=jr49) (by kernel_rfl) rfl ?_
    refine ca c25_ ?_
    refine ca c55_ ?_
    refine ca c112_ ?_
    refine ca c91_ ?_
    refine sd ?_
    refine sd ?_
    refine ca c90_ ?_
    refine sd ?_
    refine ca c95_ ?_
    refine sd ?_
    refine b_le (fun t1=>?_) (fun t1=>?_)
    (exfalso; omega)
    refine sd ?_
    refine b_lt (fun t2=>?_) (fun t2=>?_)
    (exfalso; omega)
    refine ca c114_ ?_
    exact rfl
 ·rw [bne_t h]
  refine call_of_vc (x:=jr49) (by kernel_rfl) rfl ?_
  refine ca c25_ ?_
  refine ca c55_ ?_
  refine ca c112_ ?_
  refine ca c91_ ?_
  refine sd ?_
  refine sd ?_
  refine ca c90_ ?_
  refine sd ?_
  refine b_ne (fun t1=>?_) (fun t1=>?_)
  exact rfl
  (exfalso; omega)
structure Kml where
 k:Nat
 l:Int
end Vc
