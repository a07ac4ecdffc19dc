import Derived.Test.YtifgdpnmgeffbaaGreatDoorG10
import Derived.Test.YtifgdpnmgeffbaaGreatDoorG07
import Derived.Test.YtifgdpnmgeffbaaGreatDoorG12
set_option linter.unusedSectionVars false
set_option linter.unusedVariables false
set_option linter.unusedSimpArgs false
namespace Vc
open Go Go.Proofs
theorem int_fit {k:IntKind} {r:List CT} {ds:List Data} (h:Fits' (.int k::r) ds):∃ n t,ds=.int k n::t∧(Lit.int k n).wf=true∧Fits' r t:=by
 simp only [Fits',Fit] at h
 obtain ⟨d,t,rfl,⟨n,rfl,hn⟩,ht⟩:=h
 exact ⟨n,t,rfl,hn,ht⟩
theorem i64_fit {r:List CT} {ds:List Data} (h:Fits' (.int .i64::r) ds):∃ (n:Int) (t:List Data),ds=.int .i64 n::t∧(-9223372036854775808≤n∧n≤9223372036854775807)∧Fits' r t:=by
 obtain ⟨n,t,rfl,hn,ht⟩:=int_fit h
 refine ⟨n,t,rfl,?_,ht⟩
 simp [Lit.wf] at hn
 have h1:IntKind.i64.min=-9223372036854775808:=rfl
 have h2:IntKind.i64.max=9223372036854775807:=rfl
 omega
theorem fits_nil {ds:List Vc.Data} (h:Fits' [] ds):ds=[]:=by simpa only [Fits'] using h
theorem ints_fit:∀ {es:List Data},(∀ e∈es,Fits' [.int .i64] [e])→∃ l:List Int,es=ints l
 | [],_=>⟨[],rfl⟩
 | e::r,h=>by
  obtain ⟨c,t,h1,_,_⟩:=i64_fit (h e List.mem_cons_self)
  obtain ⟨b,rfl⟩:=ints_fit (es:=r) fun x hx=>h x (List.mem_cons_of_mem _ hx)
  cases h1
  exact ⟨c::b,rfl⟩
theorem intl_fit {r:List CT} {ds:List Data} (h:Fits' (.sl false [.int .i64]::r) ds):∃ (b:List Int) (t:List Data),ds=.slice 1 (ints b)::t∧Fits' r t:=by
 simp only [Fits'] at h
 obtain ⟨d,t,rfl,hd,ht⟩:=h
 simp only [Fit] at hd
 obtain ⟨es,rfl,he⟩:=hd
 obtain ⟨b,rfl⟩:=ints_fit (es:=es) fun e h=>by
  have:=he e h
  simpa [Fits',Fit] using this
 exact ⟨b,t,rfl,ht⟩
theorem wgts_ints:∀ (l:List Int),l.length≤wgts (ints l)
 | []=>Nat.zero_le _
 | x::r=>by
  have h:=wgts_ints r
  have e:wgts (ints (x::r))=1+wgts (ints r):=rfl
  rw [e]; simp only [List.length_cons]; omega
end Vc
namespace Vc
open Go Go.Proofs
theorem ans_fit:∀ {es:List Data},(∀ e∈es,∃ ds,e=.agg ds∧Fits' [.sl false [.int .i64],.int .i64] ds)→∃ l:List An,es=ans l
 | [],_=>⟨[],rfl⟩
 | e::r,h=>by
  obtain ⟨ds,rfl,hd⟩:=h e List.mem_cons_self
  obtain ⟨s,t,rfl,h1⟩:=intl_fit hd
  obtain ⟨n,t2,rfl,_,h2⟩:=i64_fit h1
  obtain rfl:=fits_nil h2
  obtain ⟨l,rfl⟩:=ans_fit (es:=r) fun x hx=>h x (List.mem_cons_of_mem _ hx)
  exact ⟨⟨s,n⟩::l,rfl⟩
theorem ansl_fit {r:List CT} {ds:List Data} (h:Fits' (.sl true [.sl false [.int .i64],.int .i64]::r) ds):∃ (l:List An) (t:List Data),ds=.slice 2 (ans l)::t∧Fits' r t:=by
 simp only [Fits'] at h
 obtain ⟨d,t,rfl,hd,ht⟩:=h
 simp only [Fit] at hd
 obtain ⟨es,rfl,he⟩:=hd
 obtain ⟨l,rfl⟩:=ans_fit (es:=es) he
 exact ⟨l,t,rfl,ht⟩
theorem ivs_fit:∀ {es:List Data},(∀ e∈es,∃ ds,e=.agg ds∧Fits' [.int .i64,.int .i64] ds)→∃ l:List (Int × Int),es=ivs l
 | [],_=>⟨[],rfl⟩
 | e::r,h=>by
  obtain ⟨ds,rfl,hd⟩:=h e List.mem_cons_self
  obtain ⟨a,t,rfl,_,h1⟩:=i64_fit hd
  obtain ⟨b,t2,rfl,_,h2⟩:=i64_fit h1
  obtain rfl:=fits_nil h2
  obtain ⟨l,rfl⟩:=ivs_fit (es:=r) fun x hx=>h x (List.mem_cons_of_mem _ hx)
  exact ⟨(a,b)::l,rfl⟩
theorem ivsl_fit {r:List CT} {ds:List Data} (h:Fits' (.sl true [.int .i64,.int .i64]::r) ds):∃ (l:List (Int × Int)) (t:List Data),ds=.slice 2 (ivs l)::t∧Fits' r t:=by
 simp only [Fits'] at h
 obtain ⟨d,t,rfl,hd,ht⟩:=h
 simp only [Fit] at hd
 obtain ⟨es,rfl,he⟩:=hd
 obtain ⟨l,rfl⟩:=ivs_fit (es:=es) he
 exact ⟨l,t,rfl,ht⟩
theorem wgts_ans:∀ (l:List An),l.length≤wgts (ans l)∧∀ x∈l,x.set.length≤wgts (ans l)
 | []=>⟨Nat.zero_le _,fun _ h=>(by cases h)⟩
 | x::r=>by
  have h:=wgts_ans r
  have e:wgts (ans (x::r))=((wgts (ints x.set)+1)+(1+0))+wgts (ans r):=rfl
  have hx:=wgts_ints x.set
  rw [e]
  refine ⟨by simp only [List.length_cons]; omega,fun o ho=>?_⟩
  rcases List.mem_cons.1 ho with rfl | ho
  ·omega
  ·have:=h.2 o ho; omega
theorem wgts_ivs:∀ (l:List (Int × Int)),l.length≤wgts (ivs l)
 | []=>Nat.zero_le _
 | x::r=>by
  have h:=wgts_ivs r
  have e:wgts (ivs (x::r))=(1+(1+0))+wgts (ivs r):=rfl
  rw [e]; simp only [List.length_cons]; omega
end Vc
set_option maxRecDepth 10000
set_option maxHeartbeats 4000000
namespace Vc
open Go Go.Proofs
@[irreducible] def seg59a:ACode:=(.post [0,1,2,8,9,11,12] [0,1]
 (.block 4
 (.asrow 1 3 1 12
 (.keep [0,1,2,8,9,11,12,13,14] []
 (.loop
 (.post [0,1,2,8,9,11,12,13,14] [0,1]
 (.seq
 (.seq
 (.reg [] [⟨some 33,.mov (.tmp 14),none⟩,
 ⟨some 34,.mov (.tmp 0),none⟩,
 ⟨some 35,.cmp .lss (.tmp 33) (.tmp 34),none⟩])
 (.cond (.tmp 35)
 .skip
 (.exit 4)))
 (.seq
 (.block 5
 (.seq
 (.reg [0,1] [⟨some 38,.mov (.tmp 12),none⟩,
 ⟨some 39,.mov (.tmp 13),none⟩,
 ⟨some 40,.mov (.tmp 1),none⟩,
 ⟨some 41,.arith .add .i64 (.tmp 40) (.cst (.d (.int .i64 1))),none⟩,
 ⟨some 42,.arith .rem .i64 (.tmp 39) (.tmp 41),none⟩,
 ⟨some 43,.bsl 0 3 1 1 [(.int .i64 0)] [(0,(.tmp 42))],none⟩,
 ⟨some 44,.app 1 3 1 8 (.tmp 38) (.tmp 43),none⟩,
 ⟨some 12,.mov (.tmp 44),none⟩])
 (.reg [] [⟨some 45,.mov (.tmp 13),none⟩,
 ⟨some 46,.mov (.tmp 1),none⟩,
 ⟨some 47,.arith .add .i64 (.tmp 46) (.cst (.d (.int .i64 1))),none⟩,
 ⟨some 48,.arith .quo .i64 (.tmp 45) (.tmp 47),none⟩,
 ⟨some 13,.mov (.tmp 48),none⟩])))
 (.reg [] [⟨some 36,.mov (.tmp 14),none⟩,
 ⟨some 37,.arith .add .i64 (.tmp 36) (.cst (.d (.int .i64 1))),none⟩,
 ⟨some 14,.mov (.tmp 37),none⟩])))))))))
@[irreducible] def seg59b:ACode:=(.post [0,1,2,8,9,11,12,15] [0,1]
 (.block 6
 (.keep [0,1,2,8,9,11,12,15,16] [0,1]
 (.loop
 (.post [0,1,2,8,9,11,12,15,16] []
 (.seq
 (.seq
 (.reg [] [⟨some 49,.mov (.tmp 16),none⟩,
 ⟨some 50,.mov (.tmp 2),none⟩,
 ⟨some 51,.len (.tmp 50),none⟩,
 ⟨some 52,.cmp .lss (.tmp 49) (.tmp 51),none⟩])
 (.cond (.tmp 52)
 .skip
 (.exit 6)))
 (.seq
 (.block 7
 (.regd [] [⟨some 55,.mov (.tmp 15),none⟩,
 ⟨some 56,.mov (.tmp 55),none⟩,
 ⟨some 57,.mov (.tmp 12),some (56,true)⟩,
 ⟨some 58,.mov (.tmp 2),some (56,true)⟩,
 ⟨some 59,.mov (.tmp 16),some (56,true)⟩,
 ⟨some 60,.ixa 2 (.tmp 58) (.tmp 59),some (56,true)⟩,
 ⟨some 61,.fad 0 (.tmp 60),some (56,true)⟩,
 ⟨some 62,.ld false 1 (.tmp 61),some (56,true)⟩,
 ⟨some 63,.call 46 [(.tmp 57),(.tmp 62)],some (56,true)⟩,
 ⟨some 64,.mov (.tmp 2),some (56,true)⟩,
 ⟨some 65,.mov (.tmp 16),some (56,true)⟩,
 ⟨some 66,.ixa 2 (.tmp 64) (.tmp 65),some (56,true)⟩,
 ⟨some 67,.fad 1 (.tmp 66),some (56,true)⟩,
 ⟨some 68,.ld false 1 (.tmp 67),some (56,true)⟩,
 ⟨some 69,.cmp .eql (.tmp 63) (.tmp 68),some (56,true)⟩,
 ⟨some 70,.pick (.tmp 56) (.tmp 69) (.cst (.d (.bool false))),none⟩,
 ⟨some 15,.mov (.tmp 70),none⟩] [(2,3),(2,4),(3,4),(2,5),(2,6),(2,7),(2,9),(3,9),(4,9),(5,9),(6,9),(7,9),(8,9),(2,10),(3,10),(4,10),(5,10),(6,10),(7,10),(8,10),(9,10),(2,11),(3,11),(4,11),(5,11),(6,11),(7,11),(8,11),(2,12),(3,12),(4,12),(5,12),(6,12),(7,12),(8,12),(2,13),(3,13),(4,13),(5,13),(6,13),(7,13),(8,13)]))
 (.reg [] [⟨some 53,.mov (.tmp 16),none⟩,
 ⟨some 54,.arith .add .i64 (.tmp 53) (.cst (.d (.int .i64 1))),none⟩,
 ⟨some 16,.mov (.tmp 54),none⟩]))))))))
@[irreducible] def seg59c:ACode:=(.post [0,1,2,8,9,11] [0,1,2,3]
 (.block 8
 (.asrow 3 84 2 8
 (.keep [0,1,2,8,9,11,12,17] [0,1]
 (.loop
 (.post [0,1,2,8,9,11,12,17] [2,3]
 (.seq
 (.seq
 (.reg [] [⟨some 73,.mov (.tmp 17),none⟩,
 ⟨some 74,.mov (.tmp 0),none⟩,
 ⟨some 75,.cmp .lss (.tmp 73) (.tmp 74),none⟩])
 (.cond (.tmp 75)
 .skip
 (.exit 8)))
 (.seq
 (.block 9
 (.seq
 (.seq
 (.reg [] [⟨some 78,.mov (.tmp 8),none⟩,
 ⟨some 79,.len (.tmp 78),none⟩,
 ⟨some 80,.mov (.tmp 17),none⟩,
 ⟨some 81,.cmp .leq (.tmp 79) (.tmp 80),none⟩])
 (.cond (.tmp 81)
 (.regd [2,3] [⟨some 82,.mov (.tmp 8),none⟩,
 ⟨some 83,.mov (.tmp 12),none⟩,
 ⟨some 84,.mov (.tmp 17),none⟩,
 ⟨some 85,.ixa 1 (.tmp 83) (.tmp 84),none⟩,
 ⟨some 86,.ld false 1 (.tmp 85),none⟩,
 ⟨some 87,.mov (.tmp 12),none⟩,
 ⟨some 88,.mov (.tmp 17),none⟩,
 ⟨some 89,.ixa 1 (.tmp 87) (.tmp 88),none⟩,
 ⟨some 90,.ld false 1 (.tmp 89),none⟩,
 ⟨some 91,.build [(.d (.int .i64 0)),(.d (.int .i64 0))] [(0,1,(.tmp 86)),(1,1,(.tmp 90))],none⟩,
 ⟨some 92,.bsl 2 84 2 1 [(.agg [(.int .i64 0),(.int .i64 0)])] [(0,(.tmp 91))],none⟩,
 ⟨some 93,.app 3 84 2 16 (.tmp 82) (.tmp 92),none⟩,
 ⟨some 8,.mov (.tmp 93),none⟩] [(0,1),(0,2),(1,2),(0,3),(0,4),(0,5),(1,5),(2,5),(3,5),(4,5),(0,6),(1,6),(2,6),(3,6),(4,6),(5,6),(0,7),(1,7),(2,7),(3,7),(4,7),(0,8),(1,8),(2,8),(3,8),(4,8),(0,9),(0,10)])
 .skip))
 (.regd [] [⟨some 94,.mov (.tmp 8),none⟩,
 ⟨some 95,.mov (.tmp 17),none⟩,
 ⟨some 96,.mov (.tmp 8),none⟩,
 ⟨some 97,.mov (.tmp 17),none⟩,
 ⟨some 98,.ixa 2 (.tmp 96) (.tmp 97),none⟩,
 ⟨some 99,.fad 0 (.tmp 98),none⟩,
 ⟨some 100,.ld false 1 (.tmp 99),none⟩,
 ⟨some 101,.mov (.tmp 12),none⟩,
 ⟨some 102,.mov (.tmp 17),none⟩,
 ⟨some 103,.ixa 1 (.tmp 101) (.tmp 102),none⟩,
 ⟨some 104,.ld false 1 (.tmp 103),none⟩,
 ⟨some 105,.mini (.tmp 100) (.tmp 104),none⟩,
 ⟨some 106,.mov (.tmp 8),none⟩,
 ⟨some 107,.mov (.tmp 17),none⟩,
 ⟨some 108,.ixa 2 (.tmp 106) (.tmp 107),none⟩,
 ⟨some 109,.fad 1 (.tmp 108),none⟩,
 ⟨some 110,.ld false 1 (.tmp 109),none⟩,
 ⟨some 111,.mov (.tmp 12),none⟩,
 ⟨some 112,.mov (.tmp 17),none⟩,
 ⟨some 113,.ixa 1 (.tmp 111) (.tmp 112),none⟩,
 ⟨some 114,.ld false 1 (.tmp 113),none⟩,
 ⟨some 115,.maxi (.tmp 110) (.tmp 114),none⟩,
 ⟨some 116,.build [(.d (.int .i64 0)),(.d (.int .i64 0))] [(0,1,(.tmp 105)),(1,1,(.tmp 115))],none⟩,
 ⟨some 117,.ixa 2 (.tmp 94) (.tmp 95),none⟩,
 ⟨none,.st 2 (.tmp 117) (.tmp 116),none⟩] [(0,1),(0,2),(1,2),(0,3),(1,3),(2,3),(0,4),(1,4),(0,5),(1,5),(0,6),(1,6),(0,7),(1,7),(2,7),(3,7),(4,7),(5,7),(6,7),(0,8),(1,8),(2,8),(3,8),(4,8),(5,8),(6,8),(7,8),(0,9),(1,9),(2,9),(3,9),(4,9),(5,9),(6,9),(0,10),(1,10),(2,10),(3,10),(4,10),(5,10),(6,10),(0,11),(1,11),(0,12),(1,12),(2,12),(3,12),(4,12),(5,12),(6,12),(7,12),(8,12),(9,12),(10,12),(11,12),(0,13),(1,13),(2,13),(3,13),(4,13),(5,13),(6,13),(7,13),(8,13),(9,13),(10,13),(11,13),(12,13),(0,14),(1,14),(2,14),(3,14),(4,14),(5,14),(6,14),(7,14),(8,14),(9,14),(10,14),(11,14),(0,15),(1,15),(2,15),(3,15),(4,15),(5,15),(6,15),(7,15),(8,15),(9,15),(10,15),(11,15),(0,16),(1,16),(2,16),(3,16),(4,16),(5,16),(6,16),(7,16),(8,16),(9,16),(10,16),(11,16),(0,17),(1,17),(2,17),(3,17),(4,17),(5,17),(6,17),(7,17),(8,17),(9,17),(10,17),(11,17),(12,17),(13,17),(14,17),(15,17),(16,17),(0,18),(1,18),(2,18),(3,18),(4,18),(5,18),(6,18),(7,18),(8,18),(9,18),(10,18),(11,18),(12,18),(13,18),(14,18),(15,18),(16,18),(17,18),(0,19),(1,19),(2,19),(3,19),(4,19),(5,19),(6,19),(7,19),(8,19),(9,19),(10,19),(11,19),(12,19),(13,19),(14,19),(15,19),(16,19),(0,20),(1,20),(2,20),(3,20),(4,20),(5,20),(6,20),(7,20),(8,20),(9,20),(10,20),(11,20),(12,20),(13,20),(14,20),(15,20),(16,20),(0,21),(1,21),(2,21),(3,21),(4,21),(5,21),(6,21),(7,21),(8,21),(9,21),(10,21),(11,21),(0,22),(1,22)])))
 (.reg [] [⟨some 76,.mov (.tmp 17),none⟩,
 ⟨some 77,.arith .add .i64 (.tmp 76) (.cst (.d (.int .i64 1))),none⟩,
 ⟨some 17,.mov (.tmp 77),none⟩])))))))))
def jr59:AFun:=⟨123,4,[.tmp 6,.tmp 7],
 (.seq
 (.reg [] [⟨some 6,.mov (.cst (.nils 2)),none⟩,
  ⟨some 7,.mov (.cst (.d (.int .i64 0))),none⟩])
 (.seq
  (.reg [] [⟨some 8,.mov (.cst (.nils 2)),none⟩])
  (.seq
  (.reg [] [⟨some 9,.mov (.cst (.d (.int .i64 1))),none⟩])
  (.seq
   (.seq
   (.reg [] [⟨some 10,.mov (.cst (.d (.int .i64 0))),none⟩])
   (.post [0,1,2,8,9] []
    (.block 0
    (.keep [0,1,2,8,9,10] []
     (.loop
     (.post [0,1,2,8,9,10] []
      (.seq
      (.seq
       (.reg [] [⟨some 18,.mov (.tmp 10),none⟩,
        ⟨some 19,.mov (.tmp 0),none⟩,
        ⟨some 20,.cmp .lss (.tmp 18) (.tmp 19),none⟩])
       (.cond (.tmp 20)
       .skip
       (.exit 0)))
      (.seq
       (.block 1
       (.reg [] [⟨some 23,.mov (.tmp 9),none⟩,
        ⟨some 24,.mov (.tmp 1),none⟩,
        ⟨some 25,.arith .add .i64 (.tmp 24) (.cst (.d (.int .i64 1))),none⟩,
        ⟨some 26,.arith .mul .i64 (.tmp 23) (.tmp 25),none⟩,
        ⟨some 9,.mov (.tmp 26),none⟩]))
       (.reg [] [⟨some 21,.mov (.tmp 10),none⟩,
        ⟨some 22,.arith .add .i64 (.tmp 21) (.cst (.d (.int .i64 1))),none⟩,
        ⟨some 10,.mov (.tmp 22),none⟩])))))))))
   (.seq
   (.seq
    (.reg [] [⟨some 11,.mov (.cst (.d (.int .i64 0))),none⟩])
    (.post [8] [0,1,2,3]
    (.block 2
     (.asrow 3 84 2 8
     (.keep [0,1,2,8,9,11] []
      (.loop
      (.post [0,1,2,8,9,11] [0,1,2,3]
       (.seq
       (.seq
        (.reg [] [⟨some 27,.mov (.tmp 11),none⟩,
         ⟨some 28,.mov (.tmp 9),none⟩,
         ⟨some 29,.cmp .lss (.tmp 27) (.tmp 28),none⟩])
        (.cond (.tmp 29)
        .skip
        (.exit 2)))
       (.seq
        (.block 3
        (.seq
         (.reg [] [⟨some 12,.mov (.cst (.nils 1)),none⟩])
         (.seq
         (.reg [] [⟨some 32,.mov (.tmp 11),none⟩,
          ⟨some 13,.mov (.tmp 32),none⟩])
         (.seq
          (.seq
          (.reg [] [⟨some 14,.mov (.cst (.d (.int .i64 0))),none⟩])
          (.keep [0,1,2,8,9,11,12,13,14] [] seg59a))
          (.seq
          (.reg [] [⟨some 15,.mov (.cst (.d (.bool true))),none⟩])
          (.seq
           (.seq
           (.reg [] [⟨some 16,.mov (.cst (.d (.int .i64 0))),none⟩])
           (.keep [0,1,2,8,9,11,12,15,16] [] seg59b))
           (.seq
           (.seq
            (.reg [] [⟨some 71,.mov (.tmp 15),none⟩,
             ⟨some 72,.not (.tmp 71),none⟩])
            (.cond (.tmp 72)
            (.exit 3)
            .skip))
           (.seq
            (.reg [] [⟨some 17,.mov (.cst (.d (.int .i64 0))),none⟩])
            (.keep [0,1,2,8,9,11,12,17] [] seg59c)))))))))
        (.reg [] [⟨some 30,.mov (.tmp 11),none⟩,
         ⟨some 31,.arith .add .i64 (.tmp 30) (.cst (.d (.int .i64 1))),none⟩,
         ⟨some 11,.mov (.tmp 31),none⟩]))))))))))
   (.seq
    (.reg [] [⟨some 118,.mov (.tmp 8),none⟩,
     ⟨some 119,.mov (.tmp 8),none⟩,
     ⟨some 120,.len (.tmp 119),none⟩,
     ⟨some 121,.cmp .eql (.tmp 120) (.cst (.d (.int .i64 0))),none⟩,
     ⟨some 122,.call 22 [(.tmp 121),(.cst (.d (.int .i64 18)))],none⟩,
     ⟨some 6,.mov (.tmp 118),none⟩,
     ⟨some 7,.mov (.tmp 122),none⟩])
    .ret))))))⟩
theorem right_snoc (u:List Int) {l:List An} {k:Nat} {x:An} (hx:l[k]?=some x):rightB u (l.take (k+1))=(rightB u (l.take k)&&(sumL (uAt u) x.set==x.sum)):=by
 unfold rightB; rw [take_one hx,List.all_append]; simp
theorem dig_get {m n:Int} {h k:Nat} (hk:k < h):(ints (digN m n h))[((k:Int)).toNat]?=some (.int .i64 (dg m n h k)):=by
 have hl:k < (digN m n h).length:=by rw [digN_len]; exact hk
 show (ints (digN m n h))[k]?=_
 unfold ints dg
 rw [List.getElem?_map,List.getElem?_eq_getElem hl]; rfl
theorem v59a {N:Nat} {h w q p:Int} {l:List An} {O:List Data} (hh:1≤h∧h≤5) (hw:1≤w∧w≤7) (hp:0≤p∧p≤1000000) {Q:AExit→St→Prop} (hQ:Q .normal ⟨[(0,.d (.int .i64 h)),(1,.d (.int .i64 w)),(2,.d (.slice 2 (ans l))),(8,.sl 3 (O).length),(9,.d (.int .i64 q)),(11,.d (.int .i64 p)),(12,.sl 1 (ints (digN (w+1) p h.toNat)).length)],[.none,.row 3 1 (ints (digN (w+1) p h.toNat)) false,.none,.row 84 2 O false]⟩):vc Tryz.prog N seg59a ⟨[(0,.d (.int .i64 h)),(1,.d (.int .i64 w)),(2,.d (.slice 2 (ans l))),(8,.sl 3 (O).length),(9,.d (.int .i64 q)),(11,.d (.int .i64 p)),(12,.nils 1),(13,.d (.int .i64 p)),(14,.d (.int .i64 0))],[.none,.none,.none,.row 84 2 O false]⟩ Q:=by
 unfold seg59a
 refine loop_st (fun k:Nat=>⟨[(0,.d (.int .i64 h)),(1,.d (.int .i64 w)),(2,.d (.slice 2 (ans l))),(8,.sl 3 (O).length),(9,.d (.int .i64 q)),(11,.d (.int .i64 p)),(12,.sl 1 (ints (digN (w+1) p k)).length),(13,.d (.int .i64 (restN (w+1) p k))),(14,.d (.int .i64 (k:Nat)))],[.none,.row 3 1 (ints (digN (w+1) p k)) false,.none,.row 84 2 O false]⟩) (fun k=>(k:Int)≤h) (fun k=>h.toNat - k) 0 rfl (by show ((0:Nat):Int)≤h; omega) ?_
 intro k hk
 have hk:(k:Int)≤h:=hk
 have hr:=restN_rng (m:=w+1) (by omega) hp.1 k
 have hlen:(ints (digN (w+1) p k)).length=k:=by rw [ints_len,digN_len]
 dsimp only
 by_cases hkn:(k:Int) < h
 ·have fin : ∃ a' : Nat, ((a' : Int) ≤ h ∧ h.toNat - a' < h.toNat - k) ∧ (⟨[(0, .d (.int .i64 h)), (1, .d (.int .i64 w)), (2, .d (.slice 2 (ans l))), (8, .sl 3 (O).length), (9, .d (.int .i64 q)), (11, .d (.int .i64 p)), (12, .sl 1 (ints (digN (w + 1) p k) ++ [Data.int .i64 (restN (w + 1) p k % (w + 1))]).length), (13, .d (.int .i64 (restN (w + 1) p k / (w + 1)))), (14, .d (.int .i64 ((k : Int) + 1)))], [.none, .row 3 1 (ints (digN (w + 1) p k) ++ [Data.int .i64 (restN (w + 1) p k % (w + 1))]) false, .none, .row 84 2 O false]⟩ : St) = ⟨[(0, .d (.int .i64 h)), (1, .d (.int .i64 w)), (2, .d (.slice 2 (ans l))), (8, .sl 3 (O).length), (9, .d (.int .i64 q)), (11, .d (.int .i64 p)), (12, .sl 1 (ints (digN (w + 1) p a')).length), (13, .d (.int .i64 (restN (w + 1) p a'))), (14, .d (.int .i64 (a' : Nat)))], [.none, .row 3 1 (ints (digN (w + 1) p a')) false, .none, .row 84 2 O false]⟩ :=
   ⟨k+1,⟨by omega,by omega⟩,by rw [show ints (digN (w+1) p (k+1))=ints (digN (w+1) p k)++[Data.int .i64 (restN (w+1) p k % (w+1))] from List.map_append]; rfl⟩
  refine sd ?_
  refine b_lt (fun t1=>?_) (fun t1=>?_)
  refine ar_add ?_ ?_
  refine an ?_ ?_
  (show (-9223372036854775808:Int)≤w+(1:Int); omega)
  (show w+(1:Int)≤(9223372036854775807:Int); omega)
  refine ar_rem ?_ ?_
  refine an ?_ ?_
  (show (0:Int)≤restN (w+(1:Int)) p k; omega)
  (show (1:Int)≤w+(1:Int); omega)
  refine sd ?_
  refine sd ?_
  refine sd ?_
  refine an ?_ ?_
  refine an ?_ ?_
  exact rfl
  refine an ?_ ?_
  exact rfl
  refine an ?_ ?_
  exact rfl
  refine an ?_ ?_
  (show (List.length (ints (digN (w+(1:Int)) p k))+(1:Nat)) * (8:Nat)≤(2:Nat) ^ (47:Nat); omega)
  (show List.length (ints (digN (w+(1:Int)) p k))+(1:Nat)≤(2:Nat) ^ (47:Nat); omega)
  refine ar_add ?_ ?_
  refine an ?_ ?_
  (show (-9223372036854775808:Int)≤w+(1:Int); omega)
  (show w+(1:Int)≤(9223372036854775807:Int); omega)
  refine ar_quo ?_ ?_
  refine an ?_ ?_
  (show (0:Int)≤restN (w+(1:Int)) p k; omega)
  refine an ?_ ?_
  (show restN (w+(1:Int)) p k≤(9223372036854775807:Int); omega)
  (show (1:Int)≤w+(1:Int); omega)
  refine ar_add ?_ ?_
  refine an ?_ ?_
  (show (-9223372036854775808:Int)≤(↑k:Int)+(1:Int); omega)
  (show (↑k:Int)+(1:Int)≤(9223372036854775807:Int); omega)
  rotate_left
  (exfalso; omega)
  all_goals exact fin
 ·have e:k=h.toNat:=by omega
  subst e
  refine sd ?_
  refine b_lt (fun t1=>?_) (fun t1=>?_)
  (exfalso; omega)
  rotate_left
  exact hQ
theorem v59b {N:Nat} {h w q p:Int} {l:List An} {O:List Data} {D:List Int} (hl:l.length≤1048576) (hD:D.length≤5) (hr:∀ x∈D,0≤x∧x≤7) (hq:∀ x∈l,x.set.length≤1048576∧∀ i∈x.set,0≤i∧i < (D.length:Int)) {Q:AExit→St→Prop} (hQ:Q .normal ⟨[(0,.d (.int .i64 h)),(1,.d (.int .i64 w)),(2,.d (.slice 2 (ans l))),(8,.sl 3 (O).length),(9,.d (.int .i64 q)),(11,.d (.int .i64 p)),(12,.sl 1 (ints (D)).length),(15,.d (.bool (rightB D l)))],[.none,.row 3 1 (ints (D)) false,.none,.row 84 2 O false]⟩):vc Tryz.prog N seg59b ⟨[(0,.d (.int .i64 h)),(1,.d (.int .i64 w)),(2,.d (.slice 2 (ans l))),(8,.sl 3 (O).length),(9,.d (.int .i64 q)),(11,.d (.int .i64 p)),(12,.sl 1 (ints (D)).length),(15,.d (.bool true)),(16,.d (.int .i64 0))],[.none,.row 3 1 (ints (D)) false,.none,.row 84 2 O false]⟩ Q:=by
 unfold seg59b
 have hlen:=ans_len l
 have hlD:=ints_len D
 refine loop_st (fun k:Nat=>⟨[(0,.d (.int .i64 h)),(1,.d (.int .i64 w)),(2,.d (.slice 2 (ans l))),(8,.sl 3 (O).length),(9,.d (.int .i64 q)),(11,.d (.int .i64 p)),(12,.sl 1 (ints (D)).length),(15,.d (.bool (rightB D (l.take k)))),(16,.d (.int .i64 (k:Nat)))],[.none,.row 3 1 (ints (D)) false,.none,.row 84 2 O false]⟩) (fun k=>k≤l.length) (fun k=>l.length - k) 0 rfl (Nat.zero_le _) ?_
 intro k hk
 have hk:k≤l.length:=hk
 dsimp only
 by_cases hkn:k < l.length
 ·refine Exists.elim (get_lt l hkn) fun x hx=>?_
  have hx1:=ans_at hx
  have hxq:=hq x (List.mem_of_getElem? hx)
  have c46_:=c46 D x.set (by omega) hxq.1 hr hxq.2
  have e1:=right_snoc D hx
  have fin:∀ r:Bool,r=rightB D (l.take (k+1))→∃ a':Nat,(a'≤l.length∧l.length - a' < l.length - k)∧(⟨[(0,.d (.int .i64 h)),(1,.d (.int .i64 w)),(2,.d (.slice 2 (ans l))),(8,.sl 3 (O).length),(9,.d (.int .i64 q)),(11,.d (.int .i64 p)),(12,.sl 1 (ints (D)).length),(15,.d (.bool r)),(16,.d (.int .i64 ((k:Int)+1)))],[.none,.row 3 1 (ints (D)) false,.none,.row 84 2 O false]⟩:St)=⟨[(0,.d (.int .i64 h)),(1,.d (.int .i64 w)),(2,.d (.slice 2 (ans l))),(8,.sl 3 (O).length),(9,.d (.int .i64 q)),(11,.d (.int .i64 p)),(12,.sl 1 (ints (D)).length),(15,.d (.bool (rightB D (l.take a')))),(16,.d (.int .i64 (a':Nat)))],[.none,.row 3 1 (ints (D)) false,.none,.row 84 2 O false]⟩:=fun r e =>
   ⟨k+1,⟨by omega,by omega⟩,by rw [e]; rfl⟩
  cases hrk:rightB D (l.take k)
  ·rw [hrk] at e1
   refine sd ?_
   refine b_lt (fun t1=>?_) (fun t1=>?_)
   refine sd ?_
   refine ar_add ?_ ?_
   refine an ?_ ?_
   (show (-9223372036854775808:Int)≤(↑k:Int)+(1:Int); omega)
   (show (↑k:Int)+(1:Int)≤(9223372036854775807:Int); omega)
   rotate_left
   (exfalso; omega)
   all_goals exact fin _ e1.symm
  ·rw [hrk] at e1
   refine sd ?_
   refine b_lt (fun t1=>?_) (fun t1=>?_)
   refine ix_at hx1 ?_ ?_
   (show (0:Int)≤(↑k:Int); omega)
   refine sd ?_
   refine ca c46_ ?_
   refine ix_at hx1 ?_ ?_
   (show (0:Int)≤(↑k:Int); omega)
   refine sd ?_
   refine ar_add ?_ ?_
   refine an ?_ ?_
   (show (-9223372036854775808:Int)≤(↑k:Int)+(1:Int); omega)
   (show (↑k:Int)+(1:Int)≤(9223372036854775807:Int); omega)
   rotate_left
   (exfalso; omega)
   all_goals exact fin _ e1.symm
 ·have e:l.take k=l:=List.take_of_length_le (by omega)
  rw [e]
  refine sd ?_
  refine b_lt (fun t1=>?_) (fun t1=>?_)
  (exfalso; omega)
  rotate_left
  exact hQ
def newR (m n:Int) (h k:Nat):List Data:=ivs ((List.range k).map fun j=>(dg m n h j,dg m n h j))
theorem newR_len (m n:Int) (h k:Nat):(newR m n h k).length=k:=by unfold newR; rw [ivs_len,List.length_map,List.length_range]
theorem newR_succ (m n:Int) (h k:Nat):newR m n h (k+1)=newR m n h k++[Data.agg [.int .i64 (dg m n h k),.int .i64 (dg m n h k)]]:=by
 unfold newR ivs; rw [List.range_succ,List.map_append,List.map_append]; rfl
theorem v59n {N:Nat} {h w q p:Int} {l:List An} (hh:1≤h∧h≤5) {Q:AExit→St→Prop} (hQ:Q .normal ⟨[(0,.d (.int .i64 h)),(1,.d (.int .i64 w)),(2,.d (.slice 2 (ans l))),(8,.sl 3 (newR (w+1) p h.toNat h.toNat).length),(9,.d (.int .i64 q)),(11,.d (.int .i64 p))],[.none,.none,.none,.row 84 2 (newR (w+1) p h.toNat h.toNat) false]⟩):vc Tryz.prog N seg59c ⟨[(0,.d (.int .i64 h)),(1,.d (.int .i64 w)),(2,.d (.slice 2 (ans l))),(8,.sl 3 (([]:List Data)).length),(9,.d (.int .i64 q)),(11,.d (.int .i64 p)),(12,.sl 1 (ints (digN (w+1) p h.toNat)).length),(17,.d (.int .i64 0))],[.none,.row 3 1 (ints (digN (w+1) p h.toNat)) false,.none,.row 84 2 (([]:List Data)) false]⟩ Q:=by
 unfold seg59c
 have hlD:(ints (digN (w+1) p h.toNat)).length=h.toNat:=by rw [ints_len,digN_len]
 refine loop_st (fun k:Nat=>⟨[(0,.d (.int .i64 h)),(1,.d (.int .i64 w)),(2,.d (.slice 2 (ans l))),(8,.sl 3 (newR (w+1) p h.toNat k).length),(9,.d (.int .i64 q)),(11,.d (.int .i64 p)),(12,.sl 1 (ints (digN (w+1) p h.toNat)).length),(17,.d (.int .i64 (k:Nat)))],[.none,.row 3 1 (ints (digN (w+1) p h.toNat)) false,.none,.row 84 2 (newR (w+1) p h.toNat k) false]⟩) (fun k=>(k:Int)≤h) (fun k=>h.toNat - k) 0 rfl (by show ((0:Nat):Int)≤h; omega) ?_
 intro k hk
 have hk:(k:Int)≤h:=hk
 have hlR:=newR_len (w+1) p h.toNat k
 dsimp only
 by_cases hkn:(k:Int) < h
 ·have hx:=dig_get (m:=w+1) (n:=p) (h:=h.toNat) (k:=k) (by omega)
  have hs:=newR_succ (w+1) p h.toNat k
  generalize dg (w+1) p h.toNat k=d at *
  have hx2:(newR (w+1) p h.toNat k++[Data.agg [.int .i64 d,.int .i64 d]])[((k:Int)).toNat]?=some (.agg [.int .i64 d,.int .i64 d]):=by
   show (newR (w+1) p h.toNat k++[Data.agg [.int .i64 d,.int .i64 d]])[k]?=_
   rw [List.getElem?_append_right (by omega),hlR,Nat.sub_self]; rfl
  have hla:(newR (w+1) p h.toNat k++[Data.agg [.int .i64 d,.int .i64 d]]).length=k+1:=by rw [List.length_append,hlR]; rfl
  have hset:(newR (w+1) p h.toNat k++[Data.agg [.int .i64 d,.int .i64 d]]).set k (.agg [.int .i64 (min d d),.int .i64 (max d d)])=newR (w+1) p h.toNat (k+1):=by
   rw [hs,List.set_append_right _ _ (by omega),hlR,Nat.sub_self,Int.min_self,Int.max_self]; rfl
  have fin:∃ a':Nat,((a':Int)≤h∧h.toNat - a' < h.toNat - k)∧(⟨[(0,.d (.int .i64 h)),(1,.d (.int .i64 w)),(2,.d (.slice 2 (ans l))),(8,.sl 3 (newR (w+1) p h.toNat (k+1)).length),(9,.d (.int .i64 q)),(11,.d (.int .i64 p)),(12,.sl 1 (ints (digN (w+1) p h.toNat)).length),(17,.d (.int .i64 ((k:Int)+1)))],[.none,.row 3 1 (ints (digN (w+1) p h.toNat)) false,.none,.row 84 2 (newR (w+1) p h.toNat (k+1)) false]⟩:St)=⟨[(0,.d (.int .i64 h)),(1,.d (.int .i64 w)),(2,.d (.slice 2 (ans l))),(8,.sl 3 (newR (w+1) p h.toNat a').length),(9,.d (.int .i64 q)),(11,.d (.int .i64 p)),(12,.sl 1 (ints (digN (w+1) p h.toNat)).length),(17,.d (.int .i64 (a':Nat)))],[.none,.row 3 1 (ints (digN (w+1) p h.toNat)) false,.none,.row 84 2 (newR (w+1) p h.toNat a') false]⟩ :=
   ⟨k+1,⟨by omega,by omega⟩,rfl⟩
  rw [← hset,List.length_set] at fin
  refine sd ?_
  refine b_lt (fun t1=>?_) (fun t1=>?_)
  refine sd ?_
  refine sd ?_
  refine b_le (fun t2=>?_) (fun t2=>?_)
  refine an ?_ ?_
  refine an ?_ ?_
  exact rfl
  refine an ?_ ?_
  exact rfl
  refine an ?_ ?_
  (show (0:Int)≤(↑k:Int); omega)
  (show (↑k:Int) < (↑(List.length (ints (digN (w+(1:Int)) p (Int.toNat h)))):Int); omega)
  refine sd ?_
  refine ca hx ?_
  refine an ?_ ?_
  refine an ?_ ?_
  exact rfl
  refine an ?_ ?_
  exact rfl
  refine an ?_ ?_
  (show (0:Int)≤(↑k:Int); omega)
  (show (↑k:Int) < (↑(List.length (ints (digN (w+(1:Int)) p (Int.toNat h)))):Int); omega)
  refine sd ?_
  refine ca hx ?_
  refine sd ?_
  refine sd ?_
  refine sd ?_
  refine an ?_ ?_
  refine an ?_ ?_
  exact rfl
  refine an ?_ ?_
  exact rfl
  refine an ?_ ?_
  exact rfl
  refine an ?_ ?_
  (show (List.length (newR (w+(1:Int)) p (Int.toNat h) k)+(1:Nat)) * (16:Nat)≤(2:Nat) ^ (47:Nat); omega)
  (show List.length (newR (w+(1:Int)) p (Int.toNat h) k)+(1:Nat)≤(2:Nat) ^ (47:Nat); omega)
  refine an ?_ ?_
  refine an ?_ ?_
  exact rfl
  refine an ?_ ?_
  exact rfl
  refine an ?_ ?_
  (show (0:Int)≤(↑k:Int); omega)
  (show (↑k:Int) < (↑(List.length (newR (w+(1:Int)) p (Int.toNat h) k++[Data.agg [Data.int IntKind.i64 d,Data.int IntKind.i64 d]])):Int); omega)
  refine sd ?_
  refine sd ?_
  refine ca hx2 ?_
  refine an ?_ ?_
  refine an ?_ ?_
  exact rfl
  refine an ?_ ?_
  exact rfl
  refine an ?_ ?_
  (show (0:Int)≤(↑k:Int); omega)
  (show (↑k:Int) < (↑(List.length (ints (digN (w+(1:Int)) p (Int.toNat h)))):Int); omega)
  refine sd ?_
  refine ca hx ?_
  refine sd ?_
  refine an ?_ ?_
  refine an ?_ ?_
  exact rfl
  refine an ?_ ?_
  exact rfl
  refine an ?_ ?_
  (show (0:Int)≤(↑k:Int); omega)
  (show (↑k:Int) < (↑(List.length (newR (w+(1:Int)) p (Int.toNat h) k++[Data.agg [Data.int IntKind.i64 d,Data.int IntKind.i64 d]])):Int); omega)
  refine sd ?_
  refine sd ?_
  refine ca hx2 ?_
  refine an ?_ ?_
  refine an ?_ ?_
  exact rfl
  refine an ?_ ?_
  exact rfl
  refine an ?_ ?_
  (show (0:Int)≤(↑k:Int); omega)
  (show (↑k:Int) < (↑(List.length (ints (digN (w+(1:Int)) p (Int.toNat h)))):Int); omega)
  refine sd ?_
  refine ca hx ?_
  refine sd ?_
  refine an ?_ ?_
  refine an ?_ ?_
  exact rfl
  refine an ?_ ?_
  exact rfl
  refine an ?_ ?_
  (show (0:Int)≤(↑k:Int); omega)
  (show (↑k:Int) < (↑(List.length (newR (w+(1:Int)) p (Int.toNat h) k++[Data.agg [Data.int IntKind.i64 d,Data.int IntKind.i64 d]])):Int); omega)
  refine Exists.intro _ (Exists.intro (Vc.Data.agg [Data.int IntKind.i64 (min d d),Data.int IntKind.i64 (max d d)]) (And.intro (And.intro ?_ (And.intro hx2 (And.intro rfl (And.intro ?_ (And.intro rfl rfl))))) ?_))
  exact rfl
  (show (0:Nat)+(2:Nat)≤(1:Nat)+(1:Nat); omega)
  refine ar_add ?_ ?_
  refine an ?_ ?_
  (show (-9223372036854775808:Int)≤(↑k:Int)+(1:Int); omega)
  (show (↑k:Int)+(1:Int)≤(9223372036854775807:Int); omega)
  rotate_left
  (exfalso; omega)
  (exfalso; omega)
  all_goals exact fin
 ·have e:k=h.toNat:=by omega
  subst e
  refine sd ?_
  refine b_lt (fun t1=>?_) (fun t1=>?_)
  (exfalso; omega)
  rotate_left
  exact hQ
def oldR (m:Int) (h:Nat) (l:List An) (n k:Nat):List Data:=ivs ((List.range h).map fun j=>bif decide (j < k) then (lowAt m h l (n+1) j,highAt m h l (n+1) j) else (lowAt m h l n j,highAt m h l n j))
theorem oldR_len (m:Int) (h:Nat) (l:List An) (n k:Nat):(oldR m h l n k).length=h:=by unfold oldR; rw [ivs_len,List.length_map,List.length_range]
theorem oldR_0 (m:Int) (h:Nat) (l:List An) (n:Nat):oldR m h l n 0=ivs (kiv m h l n h):=by
 unfold oldR kiv
 congr 1
theorem oldR_h (m:Int) (h:Nat) (l:List An) (n:Nat):oldR m h l n h=ivs (kiv m h l (n+1) h):=by
 unfold oldR kiv
 congr 1
 refine List.map_congr_left fun j hj=>?_
 rw [decide_eq_true (List.mem_range.1 hj)]; rfl
theorem oldR_at {m:Int} {h:Nat} {l:List An} {n k:Nat} (hk:k < h):(oldR m h l n k)[((k:Int)).toNat]?=some (.agg [.int .i64 (lowAt m h l n k),.int .i64 (highAt m h l n k)]):=by
 show (oldR m h l n k)[k]?=_
 unfold oldR ivs
 rw [List.getElem?_map,List.getElem?_map,List.getElem?_range hk,Option.map_some,Option.map_some,decide_eq_false (Nat.lt_irrefl k)]; rfl
theorem oldR_set {m:Int} {h:Nat} {l:List An} {n k:Nat} (hk:k < h):(oldR m h l n k).set k (.agg [.int .i64 (lowAt m h l (n+1) k),.int .i64 (highAt m h l (n+1) k)])=oldR m h l n (k+1):=by
 refine List.ext_getElem? fun j=>?_
 by_cases hj:j < h
 ·have g : ∀ c, (oldR m h l n c)[j]? = some (.agg [.int .i64 (bif decide (j < c) then (lowAt m h l (n + 1) j, highAt m h l (n + 1) j) else (lowAt m h l n j, highAt m h l n j)).1, .int .i64 (bif decide (j < c) then (lowAt m h l (n + 1) j, highAt m h l (n + 1) j) else (lowAt m h l n j, highAt m h l n j)).2]) := fun c => by
   unfold oldR ivs
   rw [List.getElem?_map,List.getElem?_map,List.getElem?_range hj]; rfl
  by_cases he:j=k
  ·subst he
   rw [List.getElem?_set_self (by rw [oldR_len]; exact hj),g,decide_eq_true (Nat.lt_succ_self j)]; rfl
  ·rw [List.getElem?_set_ne (Ne.symm he),g,g]
   by_cases hlt:j < k
   ·rw [decide_eq_true hlt,decide_eq_true (by omega)]
   ·rw [decide_eq_false hlt,decide_eq_false (by omega)]
 ·rw [List.getElem?_eq_none (by rw [List.length_set,oldR_len]; omega),List.getElem?_eq_none (by rw [oldR_len]; omega)]
theorem v59o {N:Nat} {h w q p:Int} {l:List An} (hh:1≤h∧h≤5) (hp:0≤p) (hlo:∀ j,lowAt (w+1) h.toNat l (p.toNat+1) j=min (lowAt (w+1) h.toNat l p.toNat j) (dg (w+1) p h.toNat j)) (hhi:∀ j,highAt (w+1) h.toNat l (p.toNat+1) j=max (highAt (w+1) h.toNat l p.toNat j) (dg (w+1) p h.toNat j)) {Q:AExit→St→Prop} (hQ:Q .normal ⟨[(0,.d (.int .i64 h)),(1,.d (.int .i64 w)),(2,.d (.slice 2 (ans l))),(8,.sl 3 (oldR (w+1) h.toNat l p.toNat h.toNat).length),(9,.d (.int .i64 q)),(11,.d (.int .i64 p))],[.none,.none,.none,.row 84 2 (oldR (w+1) h.toNat l p.toNat h.toNat) false]⟩):vc Tryz.prog N seg59c ⟨[(0,.d (.int .i64 h)),(1,.d (.int .i64 w)),(2,.d (.slice 2 (ans l))),(8,.sl 3 (oldR (w+1) h.toNat l p.toNat 0).length),(9,.d (.int .i64 q)),(11,.d (.int .i64 p)),(12,.sl 1 (ints (digN (w+1) p h.toNat)).length),(17,.d (.int .i64 0))],[.none,.row 3 1 (ints (digN (w+1) p h.toNat)) false,.none,.row 84 2 (oldR (w+1) h.toNat l p.toNat 0) false]⟩ Q:=by
 unfold seg59c
 have hlD:(ints (digN (w+1) p h.toNat)).length=h.toNat:=by rw [ints_len,digN_len]
 refine loop_st (fun k:Nat=>⟨[(0,.d (.int .i64 h)),(1,.d (.int .i64 w)),(2,.d (.slice 2 (ans l))),(8,.sl 3 (oldR (w+1) h.toNat l p.toNat k).length),(9,.d (.int .i64 q)),(11,.d (.int .i64 p)),(12,.sl 1 (ints (digN (w+1) p h.toNat)).length),(17,.d (.int .i64 (k:Nat)))],[.none,.row 3 1 (ints (digN (w+1) p h.toNat)) false,.none,.row 84 2 (oldR (w+1) h.toNat l p.toNat k) false]⟩) (fun k=>(k:Int)≤h) (fun k=>h.toNat - k) 0 rfl (by show ((0:Nat):Int)≤h; omega) ?_
 intro k hk
 have hk:(k:Int)≤h:=hk
 have hlR:=oldR_len (w+1) h.toNat l p.toNat k
 dsimp only
 by_cases hkn:(k:Int) < h
 ·have hx:=dig_get (m:=w+1) (n:=p) (h:=h.toNat) (k:=k) (by omega)
  have hx2:=oldR_at (m:=w+1) (h:=h.toNat) (l:=l) (n:=p.toNat) (k:=k) (by omega)
  have hset:=oldR_set (m:=w+1) (h:=h.toNat) (l:=l) (n:=p.toNat) (k:=k) (by omega)
  rw [hlo k,hhi k] at hset
  have fin:∃ a':Nat,((a':Int)≤h∧h.toNat - a' < h.toNat - k)∧(⟨[(0,.d (.int .i64 h)),(1,.d (.int .i64 w)),(2,.d (.slice 2 (ans l))),(8,.sl 3 (oldR (w+1) h.toNat l p.toNat (k+1)).length),(9,.d (.int .i64 q)),(11,.d (.int .i64 p)),(12,.sl 1 (ints (digN (w+1) p h.toNat)).length),(17,.d (.int .i64 ((k:Int)+1)))],[.none,.row 3 1 (ints (digN (w+1) p h.toNat)) false,.none,.row 84 2 (oldR (w+1) h.toNat l p.toNat (k+1)) false]⟩:St)=⟨[(0,.d (.int .i64 h)),(1,.d (.int .i64 w)),(2,.d (.slice 2 (ans l))),(8,.sl 3 (oldR (w+1) h.toNat l p.toNat a').length),(9,.d (.int .i64 q)),(11,.d (.int .i64 p)),(12,.sl 1 (ints (digN (w+1) p h.toNat)).length),(17,.d (.int .i64 (a':Nat)))],[.none,.row 3 1 (ints (digN (w+1) p h.toNat)) false,.none,.row 84 2 (oldR (w+1) h.toNat l p.toNat a') false]⟩ :=
   ⟨k+1,⟨by omega,by omega⟩,rfl⟩
  rw [← hset,List.length_set] at fin
  clear hset hlo hhi
  generalize dg (w+1) p h.toNat k=d at *
  generalize lowAt (w+1) h.toNat l p.toNat k=a at *
  generalize highAt (w+1) h.toNat l p.toNat k=b at *
  refine sd ?_
  refine b_lt (fun t1=>?_) (fun t1=>?_)
  refine sd ?_
  refine sd ?_
  refine b_le (fun t2=>?_) (fun t2=>?_)
  (exfalso; omega)
  refine an ?_ ?_
  refine an ?_ ?_
  exact rfl
  refine an ?_ ?_
  exact rfl
  refine an ?_ ?_
  (show (0:Int)≤(↑k:Int); omega)
  (show (↑k:Int) < (↑(List.length (oldR (w+(1:Int)) (Int.toNat h) l (Int.toNat p) k)):Int); omega)
  refine sd ?_
  refine sd ?_
  refine ca hx2 ?_
  refine an ?_ ?_
  refine an ?_ ?_
  exact rfl
  refine an ?_ ?_
  exact rfl
  refine an ?_ ?_
  (show (0:Int)≤(↑k:Int); omega)
  (show (↑k:Int) < (↑(List.length (ints (digN (w+(1:Int)) p (Int.toNat h)))):Int); omega)
  refine sd ?_
  refine ca hx ?_
  refine sd ?_
  refine an ?_ ?_
  refine an ?_ ?_
  exact rfl
  refine an ?_ ?_
  exact rfl
  refine an ?_ ?_
  (show (0:Int)≤(↑k:Int); omega)
  (show (↑k:Int) < (↑(List.length (oldR (w+(1:Int)) (Int.toNat h) l (Int.toNat p) k)):Int); omega)
  refine sd ?_
  refine sd ?_
  refine ca hx2 ?_
  refine an ?_ ?_
  refine an ?_ ?_
  exact rfl
  refine an ?_ ?_
  exact rfl
  refine an ?_ ?_
  (show (0:Int)≤(↑k:Int); omega)
  (show (↑k:Int) < (↑(List.length (ints (digN (w+(1:Int)) p (Int.toNat h)))):Int); omega)
  refine sd ?_
  refine ca hx ?_
  refine sd ?_
  refine an ?_ ?_
  refine an ?_ ?_
  exact rfl
  refine an ?_ ?_
  exact rfl
  refine an ?_ ?_
  (show (0:Int)≤(↑k:Int); omega)
  (show (↑k:Int) < (↑(List.length (oldR (w+(1:Int)) (Int.toNat h) l (Int.toNat p) k)):Int); omega)
  refine Exists.intro _ (Exists.intro (Vc.Data.agg [Data.int IntKind.i64 (min a d),Data.int IntKind.i64 (max b d)]) (And.intro (And.intro ?_ (And.intro hx2 (And.intro rfl (And.intro ?_ (And.intro rfl rfl))))) ?_))
  exact rfl
  (show (0:Nat)+(2:Nat)≤(1:Nat)+(1:Nat); omega)
  refine ar_add ?_ ?_
  refine an ?_ ?_
  (show (-9223372036854775808:Int)≤(↑k:Int)+(1:Int); omega)
  (show (↑k:Int)+(1:Int)≤(9223372036854775807:Int); omega)
  rotate_left
  (exfalso; omega)
  all_goals exact fin
 ·have e:k=h.toNat:=by omega
  subst e
  refine sd ?_
  refine b_lt (fun t1=>?_) (fun t1=>?_)
  (exfalso; omega)
  rotate_left
  exact hQ
end Vc
set_option maxRecDepth 10000
set_option maxHeartbeats 4000000
namespace Vc
open Go Go.Proofs
def jr60:AFun:=⟨42,0,[.tmp 8,.tmp 9],
 (.seq
 (.reg [] [⟨some 8,.mov (.cst (.d (.bool false))),none⟩,
  ⟨some 9,.mov (.cst (.d (.int .i64 0))),none⟩])
 (.seq
  (.reg [] [⟨some 14,.mov (.tmp 0),none⟩,
   ⟨some 15,.mov (.tmp 1),none⟩,
   ⟨some 16,.mov (.tmp 2),none⟩,
   ⟨some 17,.call 59 [(.tmp 14),(.tmp 15),(.tmp 16)],none⟩,
   ⟨some 13,.mov (.tmp 17),none⟩,
   ⟨some 18,.ext 0 (.tmp 13),none⟩,
   ⟨some 19,.ext 1 (.tmp 13),none⟩,
   ⟨some 10,.mov (.tmp 18),none⟩,
   ⟨some 11,.mov (.tmp 19),none⟩])
  (.seq
  (.seq
   (.reg [] [⟨some 20,.mov (.tmp 11),none⟩,
    ⟨some 21,.cmp .neq (.tmp 20) (.cst (.d (.int .i64 0))),none⟩])
   (.cond (.tmp 21)
   (.seq
    (.reg [] [⟨some 22,.mov (.tmp 11),none⟩,
     ⟨some 8,.mov (.cst (.d (.bool false))),none⟩,
     ⟨some 9,.mov (.tmp 22),none⟩])
    .ret)
   .skip))
  (.seq
   (.seq
   (.reg [] [⟨some 12,.mov (.cst (.d (.int .i64 0))),none⟩])
   (.post [] []
    (.block 0
    (.keep [3,10,12] []
     (.loop
     (.post [3,10,12] []
      (.seq
      (.seq
       (.reg [] [⟨some 23,.mov (.tmp 12),none⟩,
        ⟨some 24,.mov (.tmp 10),none⟩,
        ⟨some 25,.len (.tmp 24),none⟩,
        ⟨some 26,.cmp .lss (.tmp 23) (.tmp 25),none⟩])
       (.cond (.tmp 26)
       .skip
       (.exit 0)))
      (.seq
       (.block 1
       (.seq
        (.regd [] [⟨some 29,.mov (.tmp 10),none⟩,
         ⟨some 30,.mov (.tmp 12),none⟩,
         ⟨some 31,.ixa 2 (.tmp 29) (.tmp 30),none⟩,
         ⟨some 32,.fad 1 (.tmp 31),none⟩,
         ⟨some 33,.ld false 1 (.tmp 32),none⟩,
         ⟨some 34,.mov (.tmp 10),none⟩,
         ⟨some 35,.mov (.tmp 12),none⟩,
         ⟨some 36,.ixa 2 (.tmp 34) (.tmp 35),none⟩,
         ⟨some 37,.fad 0 (.tmp 36),none⟩,
         ⟨some 38,.ld false 1 (.tmp 37),none⟩,
         ⟨some 39,.arith .sub .i64 (.tmp 33) (.tmp 38),none⟩,
         ⟨some 40,.mov (.tmp 3),none⟩,
         ⟨some 41,.cmp .lss (.tmp 39) (.tmp 40),none⟩] [(0,1),(0,5),(1,5),(2,5),(3,5),(4,5),(0,6),(1,6),(2,6),(3,6),(4,6),(5,6),(0,7),(1,7),(2,7),(3,7),(4,7),(0,8),(1,8),(2,8),(3,8),(4,8),(0,9),(1,9),(2,9),(3,9),(4,9),(0,11),(1,11),(2,11),(3,11),(4,11),(5,11),(6,11),(7,11),(8,11),(9,11),(10,11)])
        (.cond (.tmp 41)
        (.seq
         (.reg [] [⟨some 8,.mov (.cst (.d (.bool false))),none⟩,
          ⟨some 9,.mov (.cst (.d (.int .i64 0))),none⟩])
         .ret)
        .skip)))
       (.reg [] [⟨some 27,.mov (.tmp 12),none⟩,
        ⟨some 28,.arith .add .i64 (.tmp 27) (.cst (.d (.int .i64 1))),none⟩,
        ⟨some 12,.mov (.tmp 28),none⟩])))))))))
   (.seq
   (.reg [] [⟨some 8,.mov (.cst (.d (.bool true))),none⟩,
    ⟨some 9,.mov (.cst (.d (.int .i64 0))),none⟩])
   .ret)))))⟩
def outR (m:Int) (h:Nat) (l:List An) (n:Nat):List Data:=ivs (bif fndB m h l n then kiv m h l n h else [])
theorem outR_f {m:Int} {h:Nat} {l:List An} {n:Nat} (e:fndB m h l n=false):outR m h l n=[]:=by unfold outR; rw [e]; rfl
theorem outR_t {m:Int} {h:Nat} {l:List An} {n:Nat} (e:fndB m h l n=true):outR m h l n=ivs (kiv m h l n h):=by unfold outR; rw [e]; rfl
theorem outR_no {m:Int} {h:Nat} {l:List An} {n:Nat} (e:rightB (digN m n h) l=false):outR m h l (n+1)=outR m h l n:=by
 unfold outR kiv
 rw [(low_no e 0).2.2]
 congr 2
 refine List.map_congr_left fun j _=>?_
 rw [(low_no e j).1,(low_no e j).2.1]
theorem outR_new {m:Int} {h:Nat} {l:List An} {n:Nat} (e:rightB (digN m n h) l=true) (f:fndB m h l n=false):outR m h l (n+1)=newR m n h h:=by
 rw [outR_t (low_new e f 0).2.2]
 unfold newR kiv
 congr 1
 refine List.map_congr_left fun j _=>?_
 rw [(low_new e f j).1,(low_new e f j).2.1]
theorem outR_old {m:Int} {h:Nat} {l:List An} {n:Nat} (e:rightB (digN m n h) l=true) (f:fndB m h l n=true):outR m h l (n+1)=oldR m h l n h:=by
 rw [outR_t (kn_old e f).2.2,oldR_h]
theorem c59 (h w:Int) (l:List An) (hh:1≤h∧h≤5) (hw:1≤w∧w≤7) (hl:l.length≤1048576) (hq:∀ x∈l,x.set.length≤1048576∧∀ i∈x.set,0≤i∧i < h):CallDet Tryz.prog 59 [.d (.int .i64 h),.d (.int .i64 w),.d (.slice 2 (ans l))] [.slice 2 (ivs (knV h w l)),.int .i64 (knX h w l)]:=by
 have hlen:=ans_len l
 refine call_of_vc (x:=jr59) (by kernel_rfl) rfl ?_
 refine loop_st (fun k:Nat=>⟨[(0,.d (.int .i64 h)),(1,.d (.int .i64 w)),(2,.d (.slice 2 (ans l))),(8,.nils 2),(9,.d (.int .i64 (powN (w+1) k))),(10,.d (.int .i64 (k:Nat)))],[.none,.none,.none,.none]⟩) (fun k=>(k:Int)≤h) (fun k=>h.toNat - k) 0 rfl (by show ((0:Nat):Int)≤h; omega) ?_
 intro k hk
 have hk:(k:Int)≤h:=hk
 dsimp only
 by_cases hkn:(k:Int) < h
 ·have hp:=powN_rng (m:=w+1) (by omega) (by omega) (i:=k+1) (by omega)
  have e:powN (w+1) (k+1)=powN (w+1) k * (w+1):=rfl
  rw [e] at hp
  have fin:∃ a':Nat,((a':Int)≤h∧h.toNat - a' < h.toNat - k)∧(⟨[(0,.d (.int .i64 h)),(1,.d (.int .i64 w)),(2,.d (.slice 2 (ans l))),(8,.nils 2),(9,.d (.int .i64 (powN (w+1) k * (w+1)))),(10,.d (.int .i64 ((k:Int)+1)))],[.none,.none,.none,.none]⟩:St)=⟨[(0,.d (.int .i64 h)),(1,.d (.int .i64 w)),(2,.d (.slice 2 (ans l))),(8,.nils 2),(9,.d (.int .i64 (powN (w+1) a'))),(10,.d (.int .i64 (a':Nat)))],[.none,.none,.none,.none]⟩:=⟨k+1,⟨by omega,by omega⟩,rfl⟩
  refine sd ?_
  refine b_lt (fun t1=>?_) (fun t1=>?_)
  refine ar_add ?_ ?_
  refine an ?_ ?_
  (show (-9223372036854775808:Int)≤w+(1:Int); omega)
  (show w+(1:Int)≤(9223372036854775807:Int); omega)
  refine ar_mul ?_ ?_
  refine an ?_ ?_
  (show (-9223372036854775808:Int)≤powN (w+(1:Int)) k * (w+(1:Int)); omega)
  (show powN (w+(1:Int)) k * (w+(1:Int))≤(9223372036854775807:Int); omega)
  refine ar_add ?_ ?_
  refine an ?_ ?_
  (show (-9223372036854775808:Int)≤(↑k:Int)+(1:Int); omega)
  (show (↑k:Int)+(1:Int)≤(9223372036854775807:Int); omega)
  rotate_left
  (exfalso; omega)
  all_goals exact fin
 have e:k=h.toNat:=by omega
 subst e
 have hp:=powN_rng (m:=w+1) (by omega) (by omega) (i:=h.toNat) (by omega)
 have hV:knV h w l=bif fndB (w+1) h.toNat l (powN (w+1) h.toNat).toNat then kiv (w+1) h.toNat l (powN (w+1) h.toNat).toNat h.toNat else []:=rfl
 have hX:knX h w l=bif fndB (w+1) h.toNat l (powN (w+1) h.toNat).toNat then 0 else 18:=rfl
 generalize hqq:powN (w+1) h.toNat=q at *
 refine sd ?_
 refine b_lt (fun t1=>?_) (fun t1=>?_)
 (exfalso; omega)
 rotate_left
 refine loop_st (fun n:Nat=>⟨[(0,.d (.int .i64 h)),(1,.d (.int .i64 w)),(2,.d (.slice 2 (ans l))),(8,.sl 3 (outR (w+1) h.toNat l n).length),(9,.d (.int .i64 q)),(11,.d (.int .i64 (n:Nat)))],[.none,.none,.none,.row 84 2 (outR (w+1) h.toNat l n) false]⟩) (fun n=>(n:Int)≤q) (fun n=>q.toNat - n) 0 rfl (by show ((0:Nat):Int)≤q; omega) ?_
 intro n hn
 have hn:(n:Int)≤q:=hn
 dsimp only
 by_cases hnq:(n:Int) < q
 ·have fin:∀ O:List Data,O=outR (w+1) h.toNat l (n+1)→∃ a':Nat,((a':Int)≤q∧q.toNat - a' < q.toNat - n)∧(⟨[(0,.d (.int .i64 h)),(1,.d (.int .i64 w)),(2,.d (.slice 2 (ans l))),(8,.sl 3 (O).length),(9,.d (.int .i64 q)),(11,.d (.int .i64 ((n:Int)+1)))],[.none,.none,.none,.row 84 2 (O) false]⟩:St)=⟨[(0,.d (.int .i64 h)),(1,.d (.int .i64 w)),(2,.d (.slice 2 (ans l))),(8,.sl 3 (outR (w+1) h.toNat l a').length),(9,.d (.int .i64 q)),(11,.d (.int .i64 (a':Nat)))],[.none,.none,.none,.row 84 2 (outR (w+1) h.toNat l a') false]⟩:=fun O e=>⟨n+1,⟨by omega,by omega⟩,by rw [e]; rfl⟩
  have hDr:∀ x∈digN (w+1) (n:Int) h.toNat,0≤x∧x≤7:=fun x hx=>by have:=digN_rng (m:=w+1) (by omega) (n:=(n:Int)) (by omega) h.toNat x hx; omega
  have hDl:(digN (w+1) (n:Int) h.toNat).length=h.toNat:=digN_len _ _ _
  have hqD:∀ x∈l,x.set.length≤1048576∧∀ i∈x.set,0≤i∧i < ((digN (w+1) (n:Int) h.toNat).length:Int):=fun x hx=>⟨(hq x hx).1,fun i hi=>by have:=(hq x hx).2 i hi; omega⟩
  have hva:=fun (O:List Data) (Q:AExit→St→Prop)=>v59a (N:=123) (h:=h) (w:=w) (q:=q) (p:=(n:Int)) (l:=l) (O:=O) hh hw ⟨by omega,by omega⟩ (Q:=Q)
  have hvb:=fun (O:List Data) (Q:AExit→St→Prop)=>v59b (N:=123) (h:=h) (w:=w) (q:=q) (p:=(n:Int)) (l:=l) (O:=O) (D:=digN (w+1) (n:Int) h.toNat) hl (by omega) hDr hqD (Q:=Q)
  cases hr:rightB (digN (w+1) n h.toNat) l with
  | false =>
   have hO:=outR_no hr
   rw [hr] at hvb
   refine sd ?_
   refine b_lt (fun t2=>?_) (fun t2=>?_)
   refine hva _ _ ?_
   refine hvb _ _ ?_
   refine ar_add ?_ ?_
   refine an ?_ ?_
   (show (-9223372036854775808:Int)≤(↑n:Int)+(1:Int); omega)
   (show (↑n:Int)+(1:Int)≤(9223372036854775807:Int); omega)
   rotate_left
   (exfalso; omega)
   exact fin _ hO.symm
  | true =>
   rw [hr] at hvb
   cases hf:fndB (w+1) h.toNat l n with
   | false =>
    have hO:=outR_new hr hf
    rw [outR_f hf]
    have hvn:=fun (Q:AExit→St→Prop)=>v59n (N:=123) (h:=h) (w:=w) (q:=q) (p:=(n:Int)) (l:=l) hh (Q:=Q)
    refine sd ?_
    refine b_lt (fun t2=>?_) (fun t2=>?_)
    refine hva _ _ ?_
    refine hvb _ _ ?_
    refine hvn _ ?_
    refine ar_add ?_ ?_
    refine an ?_ ?_
    (show (-9223372036854775808:Int)≤(↑n:Int)+(1:Int); omega)
    (show (↑n:Int)+(1:Int)≤(9223372036854775807:Int); omega)
    rotate_left
    (exfalso; omega)
    exact fin _ hO.symm
   | true =>
    have hO:=outR_old hr hf
    rw [outR_t hf,← oldR_0]
    have hvo:=fun (Q:AExit→St→Prop)=>v59o (N:=123) (h:=h) (w:=w) (q:=q) (p:=(n:Int)) (l:=l) hh (by omega) (kn_old hr hf).1 (kn_old hr hf).2.1 (Q:=Q)
    refine sd ?_
    refine b_lt (fun t2=>?_) (fun t2=>?_)
    refine hva _ _ ?_
    refine hvb _ _ ?_
    refine hvo _ ?_
    refine ar_add ?_ ?_
    refine an ?_ ?_
    (show (-9223372036854775808:Int)≤(↑n:Int)+(1:Int); omega)
    (show (↑n:Int)+(1:Int)≤(9223372036854775807:Int); omega)
    rotate_left
    (exfalso; omega)
    exact fin _ hO.symm
 ·have eN:n=q.toNat:=by omega
  subst eN
  rw [hV,hX]
  cases hf:fndB (w+1) h.toNat l q.toNat
  ·rw [outR_f hf]
   refine sd ?_
   refine b_lt (fun t2=>?_) (fun t2=>?_)
   (exfalso; omega)
   refine sd ?_
   refine sd ?_
   refine ca (c22 _ _) ?_
   refine sd ?_
   exact rfl
  ·rw [outR_t hf]
   have hvl:(ivs (kiv (w+1) h.toNat l q.toNat h.toNat)).length=h.toNat:=by rw [ivs_len,kiv_len]
   have n1:(((ivs (kiv (w+1) h.toNat l q.toNat h.toNat)).length:Int)==0)=false:=beq_eq_false_iff_ne.2 (by omega)
   refine sd ?_
   refine b_lt (fun t2=>?_) (fun t2=>?_)
   (exfalso; omega)
   refine sd ?_
   refine sd ?_
   refine ca (c22 _ _) ?_
   refine sd ?_
   rotate_left
   show resV [.slice 2 (ivs (kiv (w+1) h.toNat l q.toNat h.toNat)),.int .i64 (bif (((ivs (kiv (w+1) h.toNat l q.toNat h.toNat)).length:Int)==0) then 18 else 0)]=resV [.slice 2 (ivs (kiv (w+1) h.toNat l q.toNat h.toNat)),.int .i64 0]
   rw [n1]; rfl
end Vc
