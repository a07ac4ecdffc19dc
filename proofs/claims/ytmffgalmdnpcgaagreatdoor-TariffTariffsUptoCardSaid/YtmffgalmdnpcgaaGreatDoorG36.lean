import Derived.Test.YtmffgalmdnpcgaaGreatDoorG20
import Derived.Test.YtmffgalmdnpcgaaGreatDoorG07
import Derived.Test.YtmffgalmdnpcgaaGreatDoorG33
set_option linter.unusedSectionVars false
set_option linter.unusedVariables false
set_option linter.unusedSimpArgs false
set_option maxHeartbeats 1000000
namespace Vc
open Go Go.Proofs
theorem int_fit {k:IntKind} {r:List CT} {ds:List Data} (h:Fits' (.int k::r) ds):∃ n t,ds=.int k n::t∧(Lit.int k n).wf=true∧Fits' r t:=by
 simp only [Fits',Fit] at h
 obtain ⟨d,t,rfl,⟨n,rfl,hn⟩,ht⟩:=h
 exact ⟨n,t,rfl,hn,ht⟩
theorem i64_fit {r:List CT} {ds:List Data} (h:Fits' (.int .i64::r) ds):∃ (n:Int) (t:List Data),ds=.int .i64 n::t∧(-9223372036854775808≤n∧n≤9223372036854775807)∧Fits' r t:=by
 obtain ⟨n,t,rfl,hn,ht⟩:=int_fit h
 refine ⟨n,t,rfl,?_,ht⟩
 simp [Lit.wf] at hn
 have h1:IntKind.i64.min=-9223372036854775808:=rfl
 have h2:IntKind.i64.max=9223372036854775807:=rfl
 omega
theorem fits_nil {ds:List Vc.Data} (h:Fits' [] ds):ds=[]:=by simpa only [Fits'] using h
theorem ints_fit:∀ {es:List Data},(∀ e∈es,Fits' [.int .i64] [e])→∃ l:List Int,es=ints l
 | [],_=>⟨[],rfl⟩
 | e::r,h=>by
  obtain ⟨c,t,h1,_,_⟩:=i64_fit (h e List.mem_cons_self)
  obtain ⟨b,rfl⟩:=ints_fit (es:=r) fun x hx=>h x (List.mem_cons_of_mem _ hx)
  cases h1
  exact ⟨c::b,rfl⟩
theorem intl_fit {r:List CT} {ds:List Data} (h:Fits' (.sl false [.int .i64]::r) ds):∃ (b:List Int) (t:List Data),ds=.slice 1 (ints b)::t∧Fits' r t:=by
 simp only [Fits'] at h
 obtain ⟨d,t,rfl,hd,ht⟩:=h
 simp only [Fit] at hd
 obtain ⟨es,rfl,he⟩:=hd
 obtain ⟨b,rfl⟩:=ints_fit (es:=es) fun e h=>by
  have:=he e h
  simpa [Fits',Fit] using this
 exact ⟨b,t,rfl,ht⟩
theorem wgts_ints:∀ (l:List Int),l.length≤wgts (ints l)
 | []=>Nat.zero_le _
 | x::r=>by
  have h:=wgts_ints r
  have e:wgts (ints (x::r))=1+wgts (ints r):=rfl
  rw [e]; simp only [List.length_cons]; omega
theorem sw1_fit {ds:List Data} (h:Fits' [.int .i64,.int .i64] ds):∃ x:Int × Int,Data.agg ds=.agg [.int .i64 x.1,.int .i64 x.2]:=by
 obtain ⟨a,t1,rfl,_,h1⟩:=i64_fit h
 obtain ⟨b,t2,rfl,_,h2⟩:=i64_fit h1
 obtain rfl:=fits_nil h2
 exact ⟨(a,b),rfl⟩
theorem sws_fit:∀ {es:List Data},(∀ e∈es,∃ ds,e=.agg ds∧Fits' [.int .i64,.int .i64] ds)→∃ l:List (Int × Int),es=sws l
 | [],_=>⟨[],rfl⟩
 | e::r,h=>by
  obtain ⟨ds,rfl,hd⟩:=h e List.mem_cons_self
  obtain ⟨x,hx⟩:=sw1_fit hd
  obtain ⟨l,rfl⟩:=sws_fit (es:=r) fun x hx=>h x (List.mem_cons_of_mem _ hx)
  exact ⟨x::l,by rw [hx]; rfl⟩
theorem swl_fit {r:List CT} {ds:List Data} (h:Fits' (.sl true [.int .i64,.int .i64]::r) ds):∃ (l:List (Int × Int)) (t:List Data),ds=.slice 2 (sws l)::t∧Fits' r t:=by
 simp only [Fits'] at h
 obtain ⟨d,t,rfl,hd,ht⟩:=h
 simp only [Fit] at hd
 obtain ⟨es,rfl,he⟩:=hd
 obtain ⟨l,rfl⟩:=sws_fit (es:=es) fun e h=>by
  obtain ⟨ds,h1,h2⟩:=he e h
  exact ⟨ds,h1,by simpa only [Fits'] using h2⟩
 exact ⟨l,t,rfl,ht⟩
theorem tys_fit:∀ {es:List Data},(∀ e∈es,Fits' [.sl true [.int .i64,.int .i64]] [e])→∃ l:List (List (Int × Int)),es=tys l
 | [],_=>⟨[],rfl⟩
 | e::r,h=>by
  obtain ⟨x,t,h1,_⟩:=swl_fit (h e List.mem_cons_self)
  obtain ⟨l,rfl⟩:=tys_fit (es:=r) fun x hx=>h x (List.mem_cons_of_mem _ hx)
  cases h1
  exact ⟨x::l,rfl⟩
theorem tyl_fit {r:List CT} {ds:List Data} (h:Fits' (.sl false [.sl true [.int .i64,.int .i64]]::r) ds):∃ (l:List (List (Int × Int))) (t:List Data),ds=.slice 1 (tys l)::t∧Fits' r t:=by
 simp only [Fits'] at h
 obtain ⟨d,t,rfl,hd,ht⟩:=h
 rw [Fit] at hd
 obtain ⟨es,rfl,he⟩:=hd
 obtain ⟨l,rfl⟩:=tys_fit (es:=es) fun e h=>he e h
 exact ⟨l,t,rfl,ht⟩
theorem sea1_fit {ds:List Data} (h:Fits' [.int .i64,.int .i64,.int .i64,.int .i64,.int .i64,.int .i64,.int .i64,.int .i64] ds):∃ s:Sea,Data.agg ds=seaD s:=by
 obtain ⟨a,t1,rfl,_,h1⟩:=i64_fit h
 obtain ⟨b,t2,rfl,_,h2⟩:=i64_fit h1
 obtain ⟨c,t3,rfl,_,h3⟩:=i64_fit h2
 obtain ⟨d,t4,rfl,_,h4⟩:=i64_fit h3
 obtain ⟨e,t5,rfl,_,h5⟩:=i64_fit h4
 obtain ⟨f,t6,rfl,_,h6⟩:=i64_fit h5
 obtain ⟨g,t7,rfl,_,h7⟩:=i64_fit h6
 obtain ⟨i,t8,rfl,_,h8⟩:=i64_fit h7
 obtain rfl:=fits_nil h8
 exact ⟨⟨a,b,c,d,e,f,g,i⟩,rfl⟩
theorem seas_fit:∀ {es:List Data},(∀ e∈es,∃ ds,e=.agg ds∧Fits' [.int .i64,.int .i64,.int .i64,.int .i64,.int .i64,.int .i64,.int .i64,.int .i64] ds)→∃ l:List (Sea),es=seas l
 | [],_=>⟨[],rfl⟩
 | e::r,h=>by
  obtain ⟨ds,rfl,hd⟩:=h e List.mem_cons_self
  obtain ⟨x,hx⟩:=sea1_fit hd
  obtain ⟨l,rfl⟩:=seas_fit (es:=r) fun x hx=>h x (List.mem_cons_of_mem _ hx)
  exact ⟨x::l,by rw [hx]; rfl⟩
theorem seal_fit {r:List CT} {ds:List Data} (h:Fits' (.sl true [.int .i64,.int .i64,.int .i64,.int .i64,.int .i64,.int .i64,.int .i64,.int .i64]::r) ds):∃ (l:List (Sea)) (t:List Data),ds=.slice 8 (seas l)::t∧Fits' r t:=by
 simp only [Fits'] at h
 obtain ⟨d,t,rfl,hd,ht⟩:=h
 simp only [Fit] at hd
 obtain ⟨es,rfl,he⟩:=hd
 obtain ⟨l,rfl⟩:=seas_fit (es:=es) fun e h=>by
  obtain ⟨ds,h1,h2⟩:=he e h
  exact ⟨ds,h1,by simpa only [Fits'] using h2⟩
 exact ⟨l,t,rfl,ht⟩
theorem tf_fit {r:List CT} {ds:List Data} (h:Fits' (.sl false [.int .i64]::.sl false [.sl true [.int .i64,.int .i64]]::.sl true [.int .i64,.int .i64,.int .i64,.int .i64,.int .i64,.int .i64,.int .i64,.int .i64]::.sl true [.int .i64,.int .i64]::r) ds):∃ (u:Tf) (t:List Data),ds=.slice 1 (ints u.p)::.slice 1 (tys u.t)::.slice 8 (seas u.s)::.slice 2 (sws u.b)::t∧Fits' r t:=by
 obtain ⟨p,t1,rfl,h1⟩:=intl_fit h
 obtain ⟨y,t2,rfl,h2⟩:=tyl_fit h1
 obtain ⟨s,t3,rfl,h3⟩:=seal_fit h2
 obtain ⟨b,t4,rfl,h4⟩:=swl_fit h3
 exact ⟨⟨p,y,s,b⟩,t4,rfl,h4⟩
theorem vr1_fit {ds:List Data} (h:Fits' [.int .i64,.int .i64,.sl false [.int .i64],.sl false [.sl true [.int .i64,.int .i64]],.sl true [.int .i64,.int .i64,.int .i64,.int .i64,.int .i64,.int .i64,.int .i64,.int .i64],.sl true [.int .i64,.int .i64]] ds):∃ v:Vr,Data.agg ds=vrD v:=by
 obtain ⟨a,t1,rfl,_,h1⟩:=i64_fit h
 obtain ⟨b,t2,rfl,_,h2⟩:=i64_fit h1
 obtain ⟨u,t3,rfl,h3⟩:=tf_fit h2
 obtain rfl:=fits_nil h3
 exact ⟨⟨a,b,u⟩,rfl⟩
theorem vrs_fit:∀ {es:List Data},(∀ e∈es,∃ ds,e=.agg ds∧Fits' [.int .i64,.int .i64,.sl false [.int .i64],.sl false [.sl true [.int .i64,.int .i64]],.sl true [.int .i64,.int .i64,.int .i64,.int .i64,.int .i64,.int .i64,.int .i64,.int .i64],.sl true [.int .i64,.int .i64]] ds)→∃ l:List (Vr),es=vrs l
 | [],_=>⟨[],rfl⟩
 | e::r,h=>by
  obtain ⟨ds,rfl,hd⟩:=h e List.mem_cons_self
  obtain ⟨x,hx⟩:=vr1_fit hd
  obtain ⟨l,rfl⟩:=vrs_fit (es:=r) fun x hx=>h x (List.mem_cons_of_mem _ hx)
  exact ⟨x::l,by rw [hx]; rfl⟩
theorem vrl_fit {r:List CT} {ds:List Data} (h:Fits' (.sl true [.int .i64,.int .i64,.sl false [.int .i64],.sl false [.sl true [.int .i64,.int .i64]],.sl true [.int .i64,.int .i64,.int .i64,.int .i64,.int .i64,.int .i64,.int .i64,.int .i64],.sl true [.int .i64,.int .i64]]::r) ds):∃ (l:List (Vr)) (t:List Data),ds=.slice 6 (vrs l)::t∧Fits' r t:=by
 simp only [Fits'] at h
 obtain ⟨d,t,rfl,hd,ht⟩:=h
 simp only [Fit] at hd
 obtain ⟨es,rfl,he⟩:=hd
 obtain ⟨l,rfl⟩:=vrs_fit (es:=es) fun e h=>by
  obtain ⟨ds,h1,h2⟩:=he e h
  exact ⟨ds,h1,by simpa only [Fits'] using h2⟩
 exact ⟨l,t,rfl,ht⟩
theorem wgts_sws:∀ (l:List (Int × Int)),l.length≤wgts (sws l)
 | []=>Nat.zero_le _
 | x::r=>by
  have h:=wgts_sws r
  have e:wgts (sws (x::r))=(1+(1+0))+wgts (sws r):=rfl
  rw [e]; simp only [List.length_cons]; omega
theorem wgts_tys:∀ (l:List (List (Int × Int))),l.length≤wgts (tys l)∧∀ x∈l,x.length≤wgts (tys l)
 | []=>⟨Nat.zero_le _,fun _ h=>by cases h⟩
 | x::r=>by
  have h:=wgts_tys r
  have h2:=wgts_sws x
  have e:wgts (tys (x::r))=(wgts (sws x)+1)+wgts (tys r):=rfl
  rw [e]
  refine ⟨by simp only [List.length_cons]; omega,fun y hy=>?_⟩
  rcases List.mem_cons.1 hy with rfl | hy
  ·omega
  ·have:=h.2 y hy; omega
theorem wgts_seas:∀ (l:List Sea),l.length≤wgts (seas l)
 | []=>Nat.zero_le _
 | x::r=>by
  have h:=wgts_seas r
  have e:wgts (seas (x::r))=8+wgts (seas r):=rfl
  rw [e]; simp only [List.length_cons]; omega
theorem tf_ok {u:Tf} (h:wgt (tfD u)≤1048576):u.ok:=by
 have e:wgt (tfD u)=(wgts (ints u.p)+1)+((wgts (tys u.t)+1)+((wgts (seas u.s)+1)+((wgts (sws u.b)+1)+0))):=rfl
 have h1:=wgts_ints u.p
 have h2:=wgts_tys u.t
 have h3:=wgts_seas u.s
 have h4:=wgts_sws u.b
 exact ⟨by omega,by omega,fun x hx=>by have:=h2.2 x hx; omega,by omega,by omega⟩
theorem wgts_vrs:∀ (l:List Vr),l.length≤wgts (vrs l)∧∀ v∈l,wgt (tfD v.t)≤wgts (vrs l)
 | []=>⟨Nat.zero_le _,fun _ h=>by cases h⟩
 | x::r=>by
  have h:=wgts_vrs r
  have e:wgts (vrs (x::r))=(1+(1+wgt (tfD x.t)))+wgts (vrs r):=rfl
  rw [e]
  refine ⟨by simp only [List.length_cons]; omega,fun y hy=>?_⟩
  rcases List.mem_cons.1 hy with rfl | hy
  ·omega
  ·have:=h.2 y hy; omega
end Vc
set_option maxRecDepth 10000
set_option maxHeartbeats 4000000
namespace Vc
open Go Go.Proofs
def jr3:AFun:=⟨67,3,[.tmp 6],
 (.seq
 (.reg [0,1] [⟨some 3,.cbx 0 4 (.tmp 0),none⟩,
  ⟨some 4,.cbx 1 2 (.tmp 1),none⟩,
  ⟨some 6,.mov (.cst (.d (.bool false))),none⟩])
 (.seq
  (.seq
  (.reg [] [⟨some 12,.call 18 [],none⟩,
   ⟨some 13,.not (.tmp 12),none⟩,
   ⟨some 14,.mov (.tmp 13),none⟩,
   ⟨some 15,.ld true 4 (.tmp 3),some (14,false)⟩,
   ⟨some 16,.call 19 [(.tmp 15)],some (14,false)⟩,
   ⟨some 17,.not (.tmp 16),some (14,false)⟩,
   ⟨some 18,.pick (.tmp 14) (.cst (.d (.bool true))) (.tmp 17),none⟩,
   ⟨some 19,.mov (.tmp 18),none⟩,
   ⟨some 20,.ld true 2 (.tmp 4),some (19,false)⟩,
   ⟨some 21,.call 20 [(.tmp 20)],some (19,false)⟩,
   ⟨some 22,.not (.tmp 21),some (19,false)⟩,
   ⟨some 23,.pick (.tmp 19) (.cst (.d (.bool true))) (.tmp 22),none⟩])
  (.cond (.tmp 23)
   (.seq
   (.reg [] [⟨some 24,.call 18 [],none⟩,
    ⟨some 6,.mov (.tmp 24),none⟩])
   .ret)
   .skip))
  (.seq
  (.reg [] [⟨some 26,.ld true 2 (.tmp 4),none⟩,
   ⟨some 27,.call 22 [(.tmp 26)],none⟩,
   ⟨some 28,.mov (.tmp 2),none⟩,
   ⟨some 29,.call 21 [(.tmp 27),(.tmp 28)],none⟩,
   ⟨some 25,.mov (.tmp 29),none⟩,
   ⟨some 30,.ext 0 (.tmp 25),none⟩,
   ⟨some 31,.ext 1 (.tmp 25),none⟩,
   ⟨some 7,.mov (.tmp 30),none⟩,
   ⟨some 8,.mov (.tmp 31),none⟩])
  (.seq
   (.reg [] [⟨some 32,.ld true 2 (.tmp 4),none⟩,
    ⟨some 33,.call 23 [(.tmp 32)],none⟩,
    ⟨some 9,.mov (.tmp 33),none⟩])
   (.seq
   (.reg [2] [⟨some 34,.mov (.tmp 9),none⟩,
    ⟨some 35,.mov (.tmp 2),none⟩,
    ⟨some 36,.call 25 [(.tmp 35)],none⟩,
    ⟨some 37,.bsl 2 3 1 2 [(.int .i64 0),(.int .i64 0)] [(0,(.tmp 34)),(1,(.tmp 36))],none⟩,
    ⟨some 38,.call 24 [(.tmp 37)],none⟩,
    ⟨some 10,.mov (.tmp 38),none⟩])
   (.seq
    (.reg [] [⟨some 11,.mov (.cst (.d (.int .i64 0))),none⟩])
    (.seq
    (.seq
     (.reg [] [⟨some 39,.mov (.tmp 10),none⟩,
      ⟨some 40,.cmp .eql (.tmp 39) (.cst (.d (.int .i64 0))),none⟩])
     (.cond (.tmp 40)
     (.seq
      (.reg [] [⟨some 41,.ld true 2 (.tmp 4),none⟩,
       ⟨some 42,.mov (.tmp 2),none⟩,
       ⟨some 43,.call 26 [(.tmp 41),(.tmp 42)],none⟩,
       ⟨some 11,.mov (.tmp 43),none⟩])
      (.reg [] [⟨some 44,.mov (.tmp 11),none⟩,
       ⟨some 45,.cmp .lss (.tmp 44) (.cst (.d (.int .i64 0))),none⟩,
       ⟨some 46,.call 27 [(.tmp 45),(.cst (.d (.int .i64 7)))],none⟩,
       ⟨some 10,.mov (.tmp 46),none⟩]))
     .skip))
    (.seq
     (.regd [] [⟨some 47,.ld true 4 (.tmp 3),none⟩,
      ⟨some 48,.call 29 [(.tmp 47)],none⟩,
      ⟨some 49,.call 28 [(.tmp 48)],none⟩,
      ⟨some 50,.ld true 4 (.tmp 3),none⟩,
      ⟨some 51,.call 30 [(.tmp 50)],none⟩,
      ⟨some 52,.cmp .eql (.tmp 49) (.tmp 51),none⟩,
      ⟨some 53,.mov (.tmp 52),none⟩,
      ⟨some 54,.ld true 2 (.tmp 4),some (53,true)⟩,
      ⟨some 55,.call 22 [(.tmp 54)],some (53,true)⟩,
      ⟨some 56,.call 31 [(.tmp 55)],some (53,true)⟩,
      ⟨some 57,.mov (.tmp 9),some (53,true)⟩,
      ⟨some 58,.cmp .eql (.tmp 56) (.tmp 57),some (53,true)⟩,
      ⟨some 59,.pick (.tmp 53) (.tmp 58) (.cst (.d (.bool false))),none⟩,
      ⟨some 60,.mov (.tmp 59),none⟩,
      ⟨some 61,.mov (.tmp 7),some (60,true)⟩,
      ⟨some 62,.mov (.tmp 8),some (60,true)⟩,
      ⟨some 63,.mov (.tmp 10),some (60,true)⟩,
      ⟨some 64,.mov (.tmp 11),some (60,true)⟩,
      ⟨some 65,.call 32 [(.tmp 61),(.tmp 62),(.tmp 63),(.tmp 64)],some (60,true)⟩,
      ⟨some 66,.pick (.tmp 60) (.tmp 65) (.cst (.d (.bool false))),none⟩,
      ⟨some 6,.mov (.tmp 66),none⟩] [(0,3),(1,3),(2,3),(7,10),(8,10),(9,10),(14,15),(14,16),(15,16),(14,17),(15,17),(16,17)])
     .ret))))))))⟩
theorem c3 (t:Tf) (ht:t.ok) (no:Int) (l:List Vr) (hl:l.length≤1048576) (hr:∀ x∈l,x.t.ok) (day:Int):CallDet Tryz.prog 3 [.d (tfD t),.d (.agg [.int .i64 no,.slice 6 (vrs l)]),.d (.int .i64 day)] [.bool true]:=by
 have c18_:=c18
 have c19_:CallDet Tryz.prog 19 [.d (.agg [.slice 1 (ints t.p),.slice 1 (tys t.t),.slice 8 (seas t.s),.slice 2 (sws t.b)])] [.bool (shT t)]:=c19 t ht
 have c20_:=c20' no l hl hr
 have c22_:=c22' no l hl hr
 have c23_:=c23' no l hl hr
 have c25_:=c25 day
 have c26_:=c26' no l hl day
 have c31_:=c31' no l hl hr
 have c28_:CallDet Tryz.prog 28 [.d (.agg [.slice 1 (ints t.p),.slice 1 (tys t.t),.slice 8 (seas t.s),.slice 2 (sws t.b)])] [.int .i64 (tfE t)]:=c28 t ht
 have c29_:CallDet Tryz.prog 29 [.d (.agg [.slice 1 (ints t.p),.slice 1 (tys t.t),.slice 8 (seas t.s),.slice 2 (sws t.b)])] [.agg [.slice 1 (ints t.p),.slice 1 (tys t.t),.slice 8 (seas t.s),.slice 2 (sws t.b)]]:=c29 t ht
 have c30_:CallDet Tryz.prog 30 [.d (.agg [.slice 1 (ints t.p),.slice 1 (tys t.t),.slice 8 (seas t.s),.slice 2 (sws t.b)])] [.int .i64 (tfE t)]:=c30 t ht
 have c24_:CallDet Tryz.prog 24 [.d (.slice 1 [.int .i64 (calL no l),.int .i64 (dayE day)])] [.int .i64 (firstOf [calL no l,dayE day])]:=c24 [calL no l,dayE day] (by simp)
 generalize hw:firstOf [calL no l,dayE day]=w at *
 have c21_:=c21' no l hl hr day w hw
 have c27_:=c27 (decide (ifI l day < 0)) 7
 have c32_:∀ e v:Int,e=(bif w != 0 then w else bif decide (ifI l day < 0) then 7 else 0)→(e=0→v=ifI l day)→CallDet Tryz.prog 32 [.d (.int .i64 (bif w != 0 then 0 else bif decide (ifI l day < 0) then 0 else ifI l day)),.d (.int .i64 (bif w != 0 then w else bif decide (ifI l day < 0) then 7 else 0)),.d (.int .i64 e),.d (.int .i64 v)] [.bool true]:=by
  intro e v he hv
  rw [← he]
  refine c32_ok _ _ _ ?_ ?_
  ·intro h
   rw [he] at h
   cases h2:(w != 0)
   ·rw [h2] at h
    cases h3:decide (ifI l day < 0)
    ·rw [h3] at h; exact absurd rfl h
    ·rfl
   ·rfl
  ·intro h
   have hv:=hv h
   rw [he] at h
   cases h2:(w != 0)
   ·rw [h2] at h
    cases h3:decide (ifI l day < 0)
    ·exact hv.symm
    ·rw [h3] at h; exact absurd (show (7:Int)=0 from h) (by decide)
   ·rw [h2] at h
    have h:w=0:=h
    rw [h] at h2; exact absurd h2 (by decide)
 generalize shT t=b1 at *
 generalize shC l=b2 at *
 refine call_of_vc (x:=jr3) (by kernel_rfl) rfl ?_
 cases b1
 ·refine ca c18_ ?_
  refine ca c19_ ?_
  refine sd ?_
  refine ca c18_ ?_
  exact rfl
 cases b2
 ·refine ca c18_ ?_
  refine ca c19_ ?_
  refine ca c20_ ?_
  refine ca c18_ ?_
  exact rfl
 by_cases h0:w=0
 ·have c32_1:=c32_ (bif decide (ifI l day < 0) then 7 else 0) (ifI l day) (by rw [h0]; rfl) (fun _=>rfl)
  subst h0
  refine ca c18_ ?_
  refine ca c19_ ?_
  refine ca c20_ ?_
  refine ca c22_ ?_
  refine ca c21_ ?_
  refine ca c23_ ?_
  refine ca c25_ ?_
  refine sd ?_
  refine sd ?_
  refine ca c24_ ?_
  refine sd ?_
  refine ca c26_ ?_
  refine sd ?_
  refine ca c27_ ?_
  refine ca c29_ ?_
  refine ca c28_ ?_
  refine ca c30_ ?_
  refine sd ?_
  refine b_eq (fun t1=>?_) (fun t1=>?_)
  refine ca c22_ ?_
  refine ca c31_ ?_
  refine sd ?_
  refine b_eq (fun t2=>?_) (fun t2=>?_)
  refine ca c32_1 ?_
  exact rfl
  (exfalso; omega)
  (exfalso; omega)
  all_goals skip
 ·have c32_1:=c32_ w 0 (by rw [bne_t h0]; rfl) (fun h=>absurd h h0)
  rw [bne_t h0] at c21_ c32_1
  refine ca c18_ ?_
  refine ca c19_ ?_
  refine ca c20_ ?_
  refine ca c22_ ?_
  refine ca c21_ ?_
  refine ca c23_ ?_
  refine ca c25_ ?_
  refine sd ?_
  refine sd ?_
  refine ca c24_ ?_
  refine sd ?_
  refine b_eq (fun t1=>?_) (fun t1=>?_)
  (exfalso; omega)
  refine ca c29_ ?_
  refine ca c28_ ?_
  refine ca c30_ ?_
  refine sd ?_
  refine b_eq (fun t2=>?_) (fun t2=>?_)
  refine ca c22_ ?_
  refine ca c31_ ?_
  refine sd ?_
  refine b_eq (fun t3=>?_) (fun t3=>?_)
  refine ca c32_1 ?_
  exact rfl
  (exfalso; omega)
  (exfalso; omega)
  all_goals skip
end Vc
