import Derived.Test.YtkghjijnlnnfkaaGreatDoorG12
import Derived.Test.YtkghjijnlnnfkaaGreatDoorG07
import Derived.Test.YtkghjijnlnnfkaaGreatDoorG18
import Derived.Test.YtkghjijnlnnfkaaGreatDoorG16
import Derived.Test.YtkghjijnlnnfkaaGreatDoorG20
import Derived.Test.YtkghjijnlnnfkaaGreatDoorG25
set_option linter.unusedSectionVars false
set_option linter.unusedVariables false
set_option linter.unusedSimpArgs false
namespace Vc
open Go Go.Proofs
theorem int_fit {k:IntKind} {r:List CT} {ds:List Data} (h:Fits' (.int k::r) ds):∃ n t,ds=.int k n::t∧(Lit.int k n).wf=true∧Fits' r t:=by
 simp only [Fits',Fit] at h
 obtain ⟨d,t,rfl,⟨n,rfl,hn⟩,ht⟩:=h
 exact ⟨n,t,rfl,hn,ht⟩
theorem i64_fit {r:List CT} {ds:List Data} (h:Fits' (.int .i64::r) ds):∃ (n:Int) (t:List Data),ds=.int .i64 n::t∧(-9223372036854775808≤n∧n≤9223372036854775807)∧Fits' r t:=by
 obtain ⟨n,t,rfl,hn,ht⟩:=int_fit h
 refine ⟨n,t,rfl,?_,ht⟩
 simp [Lit.wf] at hn
 have h1:IntKind.i64.min=-9223372036854775808:=rfl
 have h2:IntKind.i64.max=9223372036854775807:=rfl
 omega
theorem str_fit {r:List CT} {ds:List Data} (h:Fits' (.str::r) ds):∃ b t,ds=.str b::t∧Fits' r t:=by
 simp only [Fits',Fit] at h
 obtain ⟨d,t,rfl,⟨b,rfl⟩,ht⟩:=h
 exact ⟨b,t,rfl,ht⟩
theorem fits_nil {ds:List Vc.Data} (h:Fits' [] ds):ds=[]:=by simpa only [Fits'] using h
theorem bool_fit {r:List CT} {ds:List Data} (h:Fits' (.bool::r) ds):∃ b t,ds=.bool b::t∧Fits' r t:=by
 simp only [Fits',Fit] at h
 obtain ⟨d,t,rfl,⟨b,rfl⟩,ht⟩:=h
 exact ⟨b,t,rfl,ht⟩
end Vc
namespace Vc
open Go Go.Proofs
theorem ods_fit:∀ {es:List Data},(∀ e∈es,∃ ds,e=.agg ds∧Fits' [.str,.int .i64] ds)→∃ l:List Od,es=ods l
 | [],_=>⟨[],rfl⟩
 | e::r,h=>by
  obtain ⟨ds,rfl,hd⟩:=h e List.mem_cons_self
  obtain ⟨a,t1,rfl,h1⟩:=str_fit hd
  obtain ⟨b,t2,rfl,_,h2⟩:=i64_fit h1
  obtain rfl:=fits_nil h2
  obtain ⟨l,rfl⟩:=ods_fit (es:=r) fun x hx=>h x (List.mem_cons_of_mem _ hx)
  exact ⟨⟨a,b⟩::l,rfl⟩
theorem odl_fit {r:List CT} {ds:List Data} (h:Fits' (.sl true [.str,.int .i64]::r) ds):∃ (l:List Od) (t:List Data),ds=.slice 2 (ods l)::t∧Fits' r t:=by
 simp only [Fits'] at h
 obtain ⟨d,t,rfl,hd,ht⟩:=h
 simp only [Fit] at hd
 obtain ⟨es,rfl,he⟩:=hd
 obtain ⟨l,rfl⟩:=ods_fit (es:=es) fun e h=>by
  obtain ⟨ds,h1,h2⟩:=he e h
  exact ⟨ds,h1,by simpa only [Fits'] using h2⟩
 exact ⟨l,t,rfl,ht⟩
theorem wgts_ods:∀ (l:List Od),2 * l.length≤wgts (ods l)
 | []=>Nat.zero_le _
 | x::r=>by
  have h:=wgts_ods r
  have e:wgts (ods (x::r))=((x.o.length+1)+(1+0))+wgts (ods r):=rfl
  rw [e]; simp only [List.length_cons]; omega
theorem sw_fit {ds:List Data} (h:Fits' [.bool,.bool,.sl true [.str,.int .i64]] ds):∃ s:Sw,ds=[.bool s.on,.bool s.rd,.slice 2 (ods s.os)]:=by
 obtain ⟨a,t1,rfl,h1⟩:=bool_fit h
 obtain ⟨b,t2,rfl,h2⟩:=bool_fit h1
 obtain ⟨l,t3,rfl,h3⟩:=odl_fit h2
 obtain rfl:=fits_nil h3
 exact ⟨⟨a,b,l⟩,rfl⟩
end Vc
namespace Vc
open Go Go.Proofs
theorem hrs_fit:∀ {es:List Data},(∀ e∈es,∃ ds,e=.agg ds∧Fits' [.bool,.bool,.bool,.bool,.bool,.bool,.bool,.int .i64,.int .i64] ds)→∃ l:List Hr,es=hrs l
 | [],_=>⟨[],rfl⟩
 | e::r,h=>by
  obtain ⟨ds,rfl,hd⟩:=h e List.mem_cons_self
  obtain ⟨d0,t0,rfl,h0⟩:=bool_fit hd
  obtain ⟨d1,t1,rfl,h1⟩:=bool_fit h0
  obtain ⟨d2,t2,rfl,h2⟩:=bool_fit h1
  obtain ⟨d3,t3,rfl,h3⟩:=bool_fit h2
  obtain ⟨d4,t4,rfl,h4⟩:=bool_fit h3
  obtain ⟨d5,t5,rfl,h5⟩:=bool_fit h4
  obtain ⟨d6,t6,rfl,h6⟩:=bool_fit h5
  obtain ⟨f,t7,rfl,_,h7⟩:=i64_fit h6
  obtain ⟨t,t8,rfl,_,h8⟩:=i64_fit h7
  obtain rfl:=fits_nil h8
  obtain ⟨l,rfl⟩:=hrs_fit (es:=r) fun x hx=>h x (List.mem_cons_of_mem _ hx)
  exact ⟨⟨d0,d1,d2,d3,d4,d5,d6,f,t⟩::l,rfl⟩
theorem hrl_fit {r:List CT} {ds:List Data} (h:Fits' (.sl true [.bool,.bool,.bool,.bool,.bool,.bool,.bool,.int .i64,.int .i64]::r) ds):∃ (l:List Hr) (t:List Data),ds=.slice 9 (hrs l)::t∧Fits' r t:=by
 simp only [Fits'] at h
 obtain ⟨d,t,rfl,hd,ht⟩:=h
 simp only [Fit] at hd
 obtain ⟨es,rfl,he⟩:=hd
 obtain ⟨l,rfl⟩:=hrs_fit (es:=es) fun e h=>by
  obtain ⟨ds,h1,h2⟩:=he e h
  exact ⟨ds,h1,by simpa only [Fits'] using h2⟩
 exact ⟨l,t,rfl,ht⟩
theorem wgts_hrs:∀ (l:List Hr),l.length≤wgts (hrs l)
 | []=>Nat.zero_le _
 | x::r=>by
  have h:=wgts_hrs r
  have e:wgts (hrs (x::r))=(1+(1+(1+(1+(1+(1+(1+(1+(1+0)))))))))+wgts (hrs r):=rfl
  rw [e]; simp only [List.length_cons]; omega
end Vc
set_option maxRecDepth 10000
set_option maxHeartbeats 4000000
namespace Vc
open Go Go.Proofs
def jr61:AFun:=⟨5,0,[.tmp 2],
 (.seq
 (.reg [] [⟨some 2,.mov (.cst (.d (.int .i64 0))),none⟩])
 (.seq
  (.reg [] [⟨some 3,.mov (.tmp 0),none⟩,
   ⟨some 4,.call 22 [(.tmp 3),(.cst (.d (.int .i64 0))),(.cst (.d (.int .i64 1000000)))],none⟩,
   ⟨some 2,.mov (.tmp 4),none⟩])
  .ret))⟩
def jr62:AFun:=⟨53,7,[.tmp 8,.tmp 9],
 (.seq
 (.reg [0] [⟨some 4,.cbx 0 3 (.tmp 0),none⟩,
  ⟨some 8,.mov (.cst (.nils 1)),none⟩,
  ⟨some 9,.mov (.cst (.d (.int .i64 0))),none⟩])
 (.seq
  (.seq
  (.reg [] [⟨some 13,.ld true 3 (.tmp 4),none⟩,
   ⟨some 14,.mov (.tmp 2),none⟩,
   ⟨some 15,.call 124 [(.tmp 13),(.tmp 14)],none⟩])
  (.cond (.tmp 15)
   (.seq
   (.reg [] [⟨some 8,.mov (.cst (.nils 1)),none⟩,
    ⟨some 9,.mov (.cst (.d (.int .i64 11))),none⟩])
   .ret)
   .skip))
  (.seq
  (.reg [] [⟨some 10,.mov (.cst (.nils 1)),none⟩])
  (.seq
   (.seq
   (.reg [] [⟨some 16,.fad 0 (.tmp 4),none⟩,
    ⟨some 17,.ld false 1 (.tmp 16),none⟩,
    ⟨some 18,.not (.tmp 17),none⟩])
   (.cond (.tmp 18)
    (.reg [1,2] [⟨some 19,.mov (.tmp 10),none⟩,
     ⟨some 20,.bsl 1 9 1 1 [(.str [])] [(0,(.cst (.d (.str [111,102,102]))))],none⟩,
     ⟨some 21,.app 2 9 1 16 (.tmp 19) (.tmp 20),none⟩,
     ⟨some 10,.mov (.tmp 21),none⟩])
    .skip))
   (.seq
   (.seq
    (.reg [] [⟨some 22,.mov (.tmp 1),none⟩,
     ⟨some 23,.mov (.tmp 2),none⟩,
     ⟨some 24,.call 52 [(.tmp 22),(.tmp 23)],none⟩])
    (.cond (.tmp 24)
    (.reg [3,4] [⟨some 25,.mov (.tmp 10),none⟩,
     ⟨some 26,.bsl 3 9 1 1 [(.str [])] [(0,(.cst (.d (.str [112,114,111,116,101,99,116,101,100]))))],none⟩,
     ⟨some 27,.app 4 9 1 16 (.tmp 25) (.tmp 26),none⟩,
     ⟨some 10,.mov (.tmp 27),none⟩])
    .skip))
   (.seq
    (.reg [] [⟨some 11,.mov (.cst (.d (.int .i64 0))),none⟩])
    (.seq
    (.seq
     (.reg [] [⟨some 12,.mov (.cst (.d (.int .i64 0))),none⟩])
     (.post [10,11] [0,1,2,3,4]
     (.block 0
      (.keep [2,3,4,10,11,12] [0,1,2,3,4]
      (.loop
       (.post [2,3,4,10,11,12] []
       (.seq
        (.seq
        (.reg [] [⟨some 28,.mov (.tmp 12),none⟩,
         ⟨some 29,.fad 2 (.tmp 4),none⟩,
         ⟨some 30,.ld false 1 (.tmp 29),none⟩,
         ⟨some 31,.len (.tmp 30),none⟩,
         ⟨some 32,.cmp .lss (.tmp 28) (.tmp 31),none⟩])
        (.cond (.tmp 32)
         .skip
         (.exit 0)))
        (.seq
        (.block 1
         (.seq
         (.reg [] [⟨some 35,.mov (.tmp 2),none⟩,
          ⟨some 36,.fad 2 (.tmp 4),none⟩,
          ⟨some 37,.ld false 1 (.tmp 36),none⟩,
          ⟨some 38,.mov (.tmp 12),none⟩,
          ⟨some 39,.ixa 2 (.tmp 37) (.tmp 38),none⟩,
          ⟨some 40,.fad 1 (.tmp 39),none⟩,
          ⟨some 41,.ld false 1 (.tmp 40),none⟩,
          ⟨some 42,.arith .sub .i64 (.tmp 35) (.tmp 41),none⟩,
          ⟨some 43,.mov (.tmp 3),none⟩,
          ⟨some 44,.cmp .leq (.tmp 42) (.tmp 43),none⟩])
         (.cond (.tmp 44)
          (.reg [] [⟨some 45,.mov (.tmp 11),none⟩,
           ⟨some 46,.arith .add .i64 (.tmp 45) (.cst (.d (.int .i64 1))),none⟩,
           ⟨some 11,.mov (.tmp 46),none⟩])
          .skip)))
        (.reg [] [⟨some 33,.mov (.tmp 12),none⟩,
         ⟨some 34,.arith .add .i64 (.tmp 33) (.cst (.d (.int .i64 1))),none⟩,
         ⟨some 12,.mov (.tmp 34),none⟩])))))))))
    (.seq
     (.seq
     (.reg [] [⟨some 47,.mov (.tmp 11),none⟩,
      ⟨some 48,.cmp .lss (.tmp 47) (.cst (.d (.int .i64 2))),none⟩])
     (.cond (.tmp 48)
      (.reg [5,6] [⟨some 49,.mov (.tmp 10),none⟩,
       ⟨some 50,.bsl 5 9 1 1 [(.str [])] [(0,(.cst (.d (.str [111,102,102,105,99,101,115]))))],none⟩,
       ⟨some 51,.app 6 9 1 16 (.tmp 49) (.tmp 50),none⟩,
       ⟨some 10,.mov (.tmp 51),none⟩])
      .skip))
     (.seq
     (.reg [] [⟨some 52,.mov (.tmp 10),none⟩,
      ⟨some 8,.mov (.tmp 52),none⟩,
      ⟨some 9,.mov (.cst (.d (.int .i64 0))),none⟩])
     .ret)))))))))⟩
def jr63:AFun:=⟨38,2,[.cell 8 3 true,.tmp 9],
 (.seq
 (.reg [0,1] [⟨some 4,.cbx 0 3 (.tmp 0),none⟩,
  ⟨some 8,.alloc 1 [(.d (.bool false)),(.d (.bool false)),(.nils 2)],none⟩,
  ⟨some 9,.mov (.cst (.d (.int .i64 0))),none⟩])
 (.seq
  (.reg [] [⟨some 13,.ld true 3 (.tmp 4),none⟩,
   ⟨some 14,.mov (.tmp 1),none⟩,
   ⟨some 15,.mov (.tmp 2),none⟩,
   ⟨some 16,.mov (.tmp 3),none⟩,
   ⟨some 17,.call 62 [(.tmp 13),(.tmp 14),(.tmp 15),(.tmp 16)],none⟩,
   ⟨some 12,.mov (.tmp 17),none⟩,
   ⟨some 18,.ext 0 (.tmp 12),none⟩,
   ⟨some 19,.ext 1 (.tmp 12),none⟩,
   ⟨some 10,.mov (.tmp 18),none⟩,
   ⟨some 11,.mov (.tmp 19),none⟩])
  (.seq
  (.seq
   (.reg [] [⟨some 20,.mov (.tmp 11),none⟩,
    ⟨some 21,.cmp .neq (.tmp 20) (.cst (.d (.int .i64 0))),none⟩])
   (.cond (.tmp 21)
   (.seq
    (.reg [] [⟨some 22,.build [(.d (.bool false)),(.d (.bool false)),(.nils 2)] [],none⟩,
     ⟨some 23,.mov (.tmp 11),none⟩,
     ⟨none,.st 3 (.tmp 8) (.tmp 22),none⟩,
     ⟨some 9,.mov (.tmp 23),none⟩])
    .ret)
   .skip))
  (.seq
   (.seq
   (.reg [] [⟨some 24,.mov (.tmp 10),none⟩,
    ⟨some 25,.len (.tmp 24),none⟩,
    ⟨some 26,.cmp .eql (.tmp 25) (.cst (.d (.int .i64 0))),none⟩])
   (.cond (.tmp 26)
    (.seq
    (.reg [] [⟨some 27,.build [(.d (.bool false)),(.d (.bool false)),(.nils 2)] [],none⟩,
     ⟨none,.st 3 (.tmp 8) (.tmp 27),none⟩,
     ⟨some 9,.mov (.cst (.d (.int .i64 0))),none⟩])
    .ret)
    .skip))
   (.seq
   (.seq
    (.reg [] [⟨some 28,.mov (.tmp 10),none⟩,
     ⟨some 29,.ixa 1 (.tmp 28) (.cst (.d (.int .i64 0))),none⟩,
     ⟨some 30,.ld false 1 (.tmp 29),none⟩])
    (.block 0
    (.seq
     (.reg [] [⟨some 32,.seq false (.tmp 30) (.cst (.d (.str [111,102,102]))),none⟩,
      ⟨some 31,.mov (.tmp 32),none⟩])
     (.cond (.tmp 31)
     (.seq
      (.reg [] [⟨some 33,.build [(.d (.bool false)),(.d (.bool false)),(.nils 2)] [],none⟩,
       ⟨none,.st 3 (.tmp 8) (.tmp 33),none⟩,
       ⟨some 9,.mov (.cst (.d (.int .i64 22))),none⟩])
      .ret)
     (.seq
      (.reg [] [⟨some 35,.seq false (.tmp 30) (.cst (.d (.str [112,114,111,116,101,99,116,101,100]))),none⟩,
       ⟨some 34,.mov (.tmp 35),none⟩])
      (.cond (.tmp 34)
      (.seq
       (.reg [] [⟨some 36,.build [(.d (.bool false)),(.d (.bool false)),(.nils 2)] [],none⟩,
        ⟨none,.st 3 (.tmp 8) (.tmp 36),none⟩,
        ⟨some 9,.mov (.cst (.d (.int .i64 31))),none⟩])
       .ret)
      .skip))))))
   (.seq
    (.reg [] [⟨some 37,.build [(.d (.bool false)),(.d (.bool false)),(.nils 2)] [],none⟩,
     ⟨none,.st 3 (.tmp 8) (.tmp 37),none⟩,
     ⟨some 9,.mov (.cst (.d (.int .i64 30))),none⟩])
    .ret))))))⟩
def jr64:AFun:=⟨26,0,[.tmp 4],
 (.seq
 (.reg [] [⟨some 4,.mov (.cst (.d (.bool false))),none⟩])
 (.seq
  (.seq
  (.reg [] [⟨some 6,.mov (.tmp 0),none⟩,
   ⟨some 7,.len (.tmp 6),none⟩,
   ⟨some 8,.mov (.tmp 1),none⟩,
   ⟨some 9,.len (.tmp 8),none⟩,
   ⟨some 10,.cmp .neq (.tmp 7) (.tmp 9),none⟩])
  (.cond (.tmp 10)
   (.seq
   (.reg [] [⟨some 4,.mov (.cst (.d (.bool false))),none⟩])
   .ret)
   .skip))
  (.seq
  (.seq
   (.reg [] [⟨some 5,.mov (.cst (.d (.int .i64 0))),none⟩])
   (.post [] []
   (.block 0
    (.keep [0,1,5] []
    (.loop
     (.post [0,1,5] []
     (.seq
      (.seq
      (.reg [] [⟨some 11,.mov (.tmp 5),none⟩,
       ⟨some 12,.mov (.tmp 0),none⟩,
       ⟨some 13,.len (.tmp 12),none⟩,
       ⟨some 14,.cmp .lss (.tmp 11) (.tmp 13),none⟩])
      (.cond (.tmp 14)
       .skip
       (.exit 0)))
      (.seq
      (.block 1
       (.seq
       (.regd [] [⟨some 17,.mov (.tmp 0),none⟩,
        ⟨some 18,.mov (.tmp 5),none⟩,
        ⟨some 19,.ixa 1 (.tmp 17) (.tmp 18),none⟩,
        ⟨some 20,.ld false 1 (.tmp 19),none⟩,
        ⟨some 21,.mov (.tmp 1),none⟩,
        ⟨some 22,.mov (.tmp 5),none⟩,
        ⟨some 23,.ixa 1 (.tmp 21) (.tmp 22),none⟩,
        ⟨some 24,.ld false 1 (.tmp 23),none⟩,
        ⟨some 25,.seq true (.tmp 20) (.tmp 24),none⟩] [(0,1),(0,4),(1,4),(2,4),(3,4),(0,5),(1,5),(2,5),(3,5),(4,5),(0,6),(1,6),(2,6),(3,6),(0,7),(1,7),(2,7),(3,7)])
       (.cond (.tmp 25)
        (.seq
        (.reg [] [⟨some 4,.mov (.cst (.d (.bool false))),none⟩])
        .ret)
        .skip)))
      (.reg [] [⟨some 15,.mov (.tmp 5),none⟩,
       ⟨some 16,.arith .add .i64 (.tmp 15) (.cst (.d (.int .i64 1))),none⟩,
       ⟨some 5,.mov (.tmp 16),none⟩])))))))))
  (.seq
   (.reg [] [⟨some 4,.mov (.cst (.d (.bool true))),none⟩])
   .ret))))⟩
def jr7:AFun:=⟨101,5,[.tmp 6],
 (.seq
 (.reg [0,1] [⟨some 3,.cbx 0 3 (.tmp 0),none⟩,
  ⟨some 5,.cbx 1 2 (.tmp 2),none⟩,
  ⟨some 6,.mov (.cst (.d (.bool false))),none⟩])
 (.seq
  (.seq
  (.reg [] [⟨some 15,.ld true 3 (.tmp 3),none⟩,
   ⟨some 16,.call 56 [(.tmp 15)],none⟩,
   ⟨some 17,.not (.tmp 16),none⟩,
   ⟨some 18,.mov (.tmp 17),none⟩,
   ⟨some 19,.mov (.tmp 1),some (18,false)⟩,
   ⟨some 20,.len (.tmp 19),some (18,false)⟩,
   ⟨some 21,.cmp .gtr (.tmp 20) (.cst (.d (.int .i64 17))),some (18,false)⟩,
   ⟨some 22,.pick (.tmp 18) (.cst (.d (.bool true))) (.tmp 21),none⟩])
  (.cond (.tmp 22)
   (.seq
   (.reg [] [⟨some 23,.call 15 [],none⟩,
    ⟨some 6,.mov (.tmp 23),none⟩])
   .ret)
   .skip))
  (.seq
  (.regd [] [⟨some 25,.ld true 3 (.tmp 3),none⟩,
   ⟨some 26,.call 58 [(.tmp 25)],none⟩,
   ⟨some 27,.mov (.tmp 1),none⟩,
   ⟨some 28,.call 47 [(.tmp 27)],none⟩,
   ⟨some 29,.ixp 2 1 (.tmp 5) (.cst (.d (.int .i64 0))),none⟩,
   ⟨some 30,.ld false 1 (.tmp 29),none⟩,
   ⟨some 31,.ixp 2 1 (.tmp 5) (.cst (.d (.int .i64 1))),none⟩,
   ⟨some 32,.ld false 1 (.tmp 31),none⟩,
   ⟨some 33,.call 57 [(.tmp 26),(.tmp 28),(.tmp 30),(.tmp 32)],none⟩,
   ⟨some 24,.mov (.tmp 33),none⟩,
   ⟨some 34,.ext 0 (.tmp 24),none⟩,
   ⟨some 35,.ext 1 (.tmp 24),none⟩,
   ⟨some 7,.mov (.tmp 34),none⟩,
   ⟨some 8,.mov (.tmp 35),none⟩] [(0,2),(1,2),(0,4),(1,4),(2,4),(3,4),(0,5),(1,5),(2,5),(3,5),(0,6),(1,6),(2,6),(3,6),(4,6),(5,6),(0,7),(1,7),(2,7),(3,7),(4,7),(5,7),(10,11),(11,12)])
  (.seq
   (.regd [2] [⟨some 37,.ld true 3 (.tmp 3),none⟩,
    ⟨some 38,.call 58 [(.tmp 37)],none⟩,
    ⟨some 39,.mov (.tmp 1),none⟩,
    ⟨some 40,.call 47 [(.tmp 39)],none⟩,
    ⟨some 41,.ixp 2 1 (.tmp 5) (.cst (.d (.int .i64 0))),none⟩,
    ⟨some 42,.ld false 1 (.tmp 41),none⟩,
    ⟨some 43,.ixp 2 1 (.tmp 5) (.cst (.d (.int .i64 1))),none⟩,
    ⟨some 44,.ld false 1 (.tmp 43),none⟩,
    ⟨some 45,.call 59 [(.tmp 38),(.tmp 40),(.tmp 42),(.tmp 44)],none⟩,
    ⟨some 36,.mov (.tmp 45),none⟩,
    ⟨some 46,.ext 0 (.tmp 36),none⟩,
    ⟨some 47,.ext 1 (.tmp 36),none⟩,
    ⟨some 9,.alloc 2 [(.d (.bool false)),(.d (.bool false)),(.nils 2)],none⟩,
    ⟨none,.st 3 (.tmp 9) (.tmp 46),none⟩,
    ⟨some 10,.mov (.tmp 47),none⟩] [(0,2),(1,2),(0,4),(1,4),(2,4),(3,4),(0,5),(1,5),(2,5),(3,5),(0,6),(1,6),(2,6),(3,6),(4,6),(5,6),(0,7),(1,7),(2,7),(3,7),(4,7),(5,7),(10,11),(0,12),(1,12),(2,12),(3,12),(4,12),(5,12),(6,12),(7,12),(8,12),(9,12),(10,12),(11,12),(11,13)])
   (.seq
   (.regd [3] [⟨some 48,.ld true 3 (.tmp 3),none⟩,
    ⟨some 49,.call 60 [(.tmp 48)],none⟩,
    ⟨some 50,.mov (.tmp 1),none⟩,
    ⟨some 51,.call 50 [(.tmp 50)],none⟩,
    ⟨some 52,.ixp 2 1 (.tmp 5) (.cst (.d (.int .i64 0))),none⟩,
    ⟨some 53,.ld false 1 (.tmp 52),none⟩,
    ⟨some 54,.call 51 [(.tmp 53)],none⟩,
    ⟨some 55,.ixp 2 1 (.tmp 5) (.cst (.d (.int .i64 1))),none⟩,
    ⟨some 56,.ld false 1 (.tmp 55),none⟩,
    ⟨some 57,.call 61 [(.tmp 56)],none⟩,
    ⟨some 58,.bsl 3 3 1 4 [(.int .i64 0),(.int .i64 0),(.int .i64 0),(.int .i64 0)] [(0,(.tmp 49)),(1,(.tmp 51)),(2,(.tmp 54)),(3,(.tmp 57))],none⟩,
    ⟨some 59,.call 21 [(.tmp 58)],none⟩,
    ⟨some 11,.mov (.tmp 59),none⟩] [(0,2),(1,2),(0,4),(1,4),(2,4),(3,4),(0,5),(1,5),(2,5),(3,5),(0,7),(1,7),(2,7),(3,7),(4,7),(5,7),(6,7),(0,8),(1,8),(2,8),(3,8),(4,8),(5,8),(6,8)])
   (.seq
    (.reg [] [⟨some 60,.mov (.tmp 11),none⟩,
     ⟨some 12,.mov (.tmp 60),none⟩])
    (.seq
    (.reg [] [⟨some 13,.mov (.cst (.nils 1)),none⟩])
    (.seq
     (.reg [4] [⟨some 14,.alloc 4 [(.d (.bool false)),(.d (.bool false)),(.nils 2)],none⟩])
     (.seq
     (.seq
      (.reg [] [⟨some 61,.mov (.tmp 11),none⟩,
       ⟨some 62,.cmp .eql (.tmp 61) (.cst (.d (.int .i64 0))),none⟩])
      (.cond (.tmp 62)
      (.seq
       (.reg [] [⟨some 64,.ld true 3 (.tmp 3),none⟩,
        ⟨some 65,.mov (.tmp 1),none⟩,
        ⟨some 66,.ixp 2 1 (.tmp 5) (.cst (.d (.int .i64 0))),none⟩,
        ⟨some 67,.ld false 1 (.tmp 66),none⟩,
        ⟨some 68,.ixp 2 1 (.tmp 5) (.cst (.d (.int .i64 1))),none⟩,
        ⟨some 69,.ld false 1 (.tmp 68),none⟩,
        ⟨some 70,.call 62 [(.tmp 64),(.tmp 65),(.tmp 67),(.tmp 69)],none⟩,
        ⟨some 63,.mov (.tmp 70),none⟩,
        ⟨some 71,.ext 0 (.tmp 63),none⟩,
        ⟨some 72,.ext 1 (.tmp 63),none⟩,
        ⟨some 13,.mov (.tmp 71),none⟩,
        ⟨some 11,.mov (.tmp 72),none⟩])
       (.reg [] [⟨some 74,.ld true 3 (.tmp 3),none⟩,
        ⟨some 75,.mov (.tmp 1),none⟩,
        ⟨some 76,.ixp 2 1 (.tmp 5) (.cst (.d (.int .i64 0))),none⟩,
        ⟨some 77,.ld false 1 (.tmp 76),none⟩,
        ⟨some 78,.ixp 2 1 (.tmp 5) (.cst (.d (.int .i64 1))),none⟩,
        ⟨some 79,.ld false 1 (.tmp 78),none⟩,
        ⟨some 80,.call 63 [(.tmp 74),(.tmp 75),(.tmp 77),(.tmp 79)],none⟩,
        ⟨some 73,.mov (.tmp 80),none⟩,
        ⟨some 81,.ext 0 (.tmp 73),none⟩,
        ⟨some 82,.ext 1 (.tmp 73),none⟩,
        ⟨none,.st 3 (.tmp 14) (.tmp 81),none⟩,
        ⟨some 12,.mov (.tmp 82),none⟩]))
      .skip))
     (.seq
      (.reg [] [⟨some 83,.mov (.tmp 7),none⟩,
       ⟨some 84,.mov (.tmp 13),none⟩,
       ⟨some 85,.call 64 [(.tmp 83),(.tmp 84)],none⟩,
       ⟨some 86,.mov (.tmp 85),none⟩,
       ⟨some 87,.mov (.tmp 8),some (86,true)⟩,
       ⟨some 88,.mov (.tmp 11),some (86,true)⟩,
       ⟨some 89,.cmp .eql (.tmp 87) (.tmp 88),some (86,true)⟩,
       ⟨some 90,.pick (.tmp 86) (.tmp 89) (.cst (.d (.bool false))),none⟩,
       ⟨some 91,.mov (.tmp 90),none⟩,
       ⟨some 92,.ld true 3 (.tmp 9),some (91,true)⟩,
       ⟨some 93,.mov (.tmp 10),some (91,true)⟩,
       ⟨some 94,.mov (.tmp 12),some (91,true)⟩,
       ⟨some 95,.ld true 3 (.tmp 14),some (91,true)⟩,
       ⟨some 96,.call 65 [(.tmp 92),(.tmp 93),(.tmp 94),(.tmp 95)],some (91,true)⟩,
       ⟨some 97,.pick (.tmp 91) (.tmp 96) (.cst (.d (.bool false))),none⟩,
       ⟨some 98,.mov (.tmp 97),none⟩,
       ⟨some 99,.call 15 [],some (98,true)⟩,
       ⟨some 100,.pick (.tmp 98) (.tmp 99) (.cst (.d (.bool false))),none⟩,
       ⟨some 6,.mov (.tmp 100),none⟩])
      .ret))))))))))⟩
theorem c61 (n:Int):CallDet Tryz.prog 61 [.d (.int .i64 n)] [.int .i64 (within3 n 0 1000000)]:=by
 have c22_:=c22 n 0 1000000
 refine call_of_vc (x:=jr61) (by kernel_rfl) rfl ?_
 refine ca c22_ ?_
 exact rfl
theorem strs_at {l:List Nm} {k:Nat} {x:Nm} (h:l[k]?=some x):(strs l)[((k:Int)).toNat]?=some (.str x):=by
 show (l.map _)[k]?=_
 rw [List.getElem?_map,h]; rfl
theorem c64 (w:List Nm) (hl:w.length≤1048576):CallDet Tryz.prog 64 [.d (.slice 1 (strs w)),.d (.slice 1 (strs w))] [.bool true]:=by
 have hlen:(strs w).length=w.length:=List.length_map _
 refine call_of_vc (x:=jr64) (by kernel_rfl) rfl ?_
 refine sd ?_
 refine b_ne (fun t1=>?_) (fun t1=>?_)
 (exfalso; omega)
 rotate_left
 refine loop_st (fun k:Nat=>⟨[(0,.d (.slice 1 (strs w))),(1,.d (.slice 1 (strs w))),(5,.d (.int .i64 ((k:Nat))))],[]⟩) (fun k=>k≤w.length) (fun k=>w.length - k) 0 rfl (Nat.zero_le _) ?_
 intro k hk
 have hk:k≤w.length:=hk
 dsimp only
 by_cases hkn:k < w.length
 ·refine Exists.elim (get_lt w hkn) fun x hx=>?_
  have hx1:=strs_at hx
  have fin:∃ a':Nat,(a'≤w.length∧w.length - a' < w.length - k)∧(⟨[(0,.d (.slice 1 (strs w))),(1,.d (.slice 1 (strs w))),(5,.d (.int .i64 ((k:Int)+1)))],[]⟩:St)=⟨[(0,.d (.slice 1 (strs w))),(1,.d (.slice 1 (strs w))),(5,.d (.int .i64 ((a':Nat))))],[]⟩:=⟨k+1,⟨by omega,by omega⟩,rfl⟩
  refine sd ?_
  refine b_lt (fun t2=>?_) (fun t2=>?_)
  refine ix_at hx1 ?_ ?_
  (show (0:Int)≤(↑k:Int); omega)
  refine ix_at hx1 ?_ ?_
  (show (0:Int)≤(↑k:Int); omega)
  refine b_intro (fun t3=>?_) (fun t3=>?_)
  replace t3:(x != x)=true:=t3
  rotate_left
  replace t3:(x != x)=false:=t3
  refine ar_add ?_ ?_
  refine an ?_ ?_
  (show (-9223372036854775808:Int)≤(↑k:Int)+(1:Int); omega)
  (show (↑k:Int)+(1:Int)≤(9223372036854775807:Int); omega)
  rotate_left
  (exfalso; omega)
  all_goals first | exact fin | (simp at t1; done) | (simp at t2; done) | (simp at t3; done)
 ·refine sd ?_
  refine b_lt (fun t2=>?_) (fun t2=>?_)
  (exfalso; omega)
  exact rfl
theorem c62 (s:Sw) (l:List Hr) (t f:Int) (h:apE s l t f=0):CallDet Tryz.prog 62 [.d (.agg [.bool s.on,.bool s.rd,.slice 2 (ods s.os)]),.d (.slice 9 (hrs l)),.d (.int .i64 t),.d (.int .i64 f)] [.slice 1 (strs ((bars s l t f).map Br.w)),.int .i64 0]:=by
 obtain ⟨hc,hH,⟨h0,h1⟩,⟨hf0,hf1⟩,hlast⟩:=apE_0 h
 have hs:=ckS_len hc
 have ht:=ckS_t hc
 have hll:=(ckH_ok hH).1
 have hlen:=ods_len s.os
 have c124_:=c124 s t (by omega) h0
 rw [decide_eq_false hlast] at c124_
 have c52_:=c52 l t (by omega) h0 (by omega)
 cases hb0:s.on with
 | true =>
  cases hb1:prL l t with
  | true =>
   rw [hb1] at c52_
   refine call_of_vc (x:=jr62) (by kernel_rfl) rfl ?_
   rw [hb0] at c124_
   refine ca c124_ ?_
   refine ca c52_ ?_
   refine sd ?_
   refine sd ?_
   refine sd ?_
   refine an ?_ ?_
   refine an ?_ ?_
   (show (1:Nat) * (16:Nat)≤(2:Nat) ^ (47:Nat); omega)
   (show (1:Nat)≤(2:Nat) ^ (47:Nat); omega)
   rotate_left
   refine loop_st (fun p:Kn=>⟨[(2,.d (.int .i64 t)),(3,.d (.int .i64 f)),(4,.ptr 0 0),(10,.sl 4 1),(11,.d (.int .i64 (p.n))),(12,.d (.int .i64 ((p.k:Nat))))],[.cbox [.bool true,.bool s.rd,.slice 2 (ods s.os)],.none,.none,.none,.row 9 1 [Data.str [112,114,111,116,101,99,116,101,100]] false,.none,.none]⟩) (fun p=>(p.k≤s.os.length∧0≤p.n∧p.n≤p.k)∧nf t f s.os 0=nf t f (s.os.drop p.k) p.n) (fun p=>s.os.length - p.k) ⟨0,0⟩ rfl ⟨⟨Nat.zero_le _,Int.le_refl _,Int.le_refl _⟩,rfl⟩ ?_
   rintro ⟨k,n⟩ ⟨⟨hk,hn0,hn1⟩,hi⟩
   have hk:k≤s.os.length:=hk
   have hn0:0≤n:=hn0
   have hn1:n≤k:=hn1
   dsimp only at hi ⊢
   by_cases hkn:k < s.os.length
   ·refine Exists.elim (get_lt s.os hkn) fun o hx=>?_
    have hx1:=ods_at hx
    have hot:=ht o (List.mem_of_getElem? hx)
    rw [drop_at hx,nf] at hi
    by_cases hf:t - o.t≤f
    ·rw [decide_eq_true hf] at hi
     have fin:∃ a':Kn,(((a'.k≤s.os.length∧0≤a'.n∧a'.n≤a'.k)∧nf t f s.os 0=nf t f (s.os.drop a'.k) a'.n)∧s.os.length - a'.k < s.os.length - k)∧(⟨[(2,.d (.int .i64 t)),(3,.d (.int .i64 f)),(4,.ptr 0 0),(10,.sl 4 1),(11,.d (.int .i64 (n+1))),(12,.d (.int .i64 ((k:Int)+1)))],[.cbox [.bool true,.bool s.rd,.slice 2 (ods s.os)],.none,.none,.none,.row 9 1 [Data.str [112,114,111,116,101,99,116,101,100]] false,.none,.none]⟩:St)=⟨[(2,.d (.int .i64 t)),(3,.d (.int .i64 f)),(4,.ptr 0 0),(10,.sl 4 1),(11,.d (.int .i64 (a'.n))),(12,.d (.int .i64 ((a'.k:Nat))))],[.cbox [.bool true,.bool s.rd,.slice 2 (ods s.os)],.none,.none,.none,.row 9 1 [Data.str [112,114,111,116,101,99,116,101,100]] false,.none,.none]⟩:=⟨⟨k+1,n+1⟩,⟨⟨⟨by show k+1≤_; omega,by show 0≤n+1; omega,by show n+1≤((k+1:Nat):Int); omega⟩,hi⟩,by show s.os.length - (k+1) < _; omega⟩,rfl⟩
     refine sd ?_
     refine b_lt (fun t1=>?_) (fun t1=>?_)
     refine ix_at hx1 ?_ ?_
     (show (0:Int)≤(↑k:Int); omega)
     refine ar_sub ?_ ?_
     refine an ?_ ?_
     (show (-9223372036854775808:Int)≤t - Od.t o; omega)
     (show t - Od.t o≤(9223372036854775807:Int); omega)
     refine sd ?_
     refine b_le (fun t2=>?_) (fun t2=>?_)
     refine ar_add ?_ ?_
     refine an ?_ ?_
     (show (-9223372036854775808:Int)≤n+(1:Int); omega)
     (show n+(1:Int)≤(9223372036854775807:Int); omega)
     refine ar_add ?_ ?_
     refine an ?_ ?_
     (show (-9223372036854775808:Int)≤(↑k:Int)+(1:Int); omega)
     (show (↑k:Int)+(1:Int)≤(9223372036854775807:Int); omega)
     rotate_left
     (exfalso; omega)
     (exfalso; omega)
     all_goals exact fin
    ·rw [decide_eq_false hf] at hi
     have fin:∃ a':Kn,(((a'.k≤s.os.length∧0≤a'.n∧a'.n≤a'.k)∧nf t f s.os 0=nf t f (s.os.drop a'.k) a'.n)∧s.os.length - a'.k < s.os.length - k)∧(⟨[(2,.d (.int .i64 t)),(3,.d (.int .i64 f)),(4,.ptr 0 0),(10,.sl 4 1),(11,.d (.int .i64 (n))),(12,.d (.int .i64 ((k:Int)+1)))],[.cbox [.bool true,.bool s.rd,.slice 2 (ods s.os)],.none,.none,.none,.row 9 1 [Data.str [112,114,111,116,101,99,116,101,100]] false,.none,.none]⟩:St)=⟨[(2,.d (.int .i64 t)),(3,.d (.int .i64 f)),(4,.ptr 0 0),(10,.sl 4 1),(11,.d (.int .i64 (a'.n))),(12,.d (.int .i64 ((a'.k:Nat))))],[.cbox [.bool true,.bool s.rd,.slice 2 (ods s.os)],.none,.none,.none,.row 9 1 [Data.str [112,114,111,116,101,99,116,101,100]] false,.none,.none]⟩:=⟨⟨k+1,n⟩,⟨⟨⟨by show k+1≤_; omega,hn0,by show n≤((k+1:Nat):Int); omega⟩,hi⟩,by show s.os.length - (k+1) < _; omega⟩,rfl⟩
     refine sd ?_
     refine b_lt (fun t1=>?_) (fun t1=>?_)
     refine ix_at hx1 ?_ ?_
     (show (0:Int)≤(↑k:Int); omega)
     refine ar_sub ?_ ?_
     refine an ?_ ?_
     (show (-9223372036854775808:Int)≤t - Od.t o; omega)
     (show t - Od.t o≤(9223372036854775807:Int); omega)
     refine sd ?_
     refine b_le (fun t2=>?_) (fun t2=>?_)
     (exfalso; omega)
     refine ar_add ?_ ?_
     refine an ?_ ?_
     (show (-9223372036854775808:Int)≤(↑k:Int)+(1:Int); omega)
     (show (↑k:Int)+(1:Int)≤(9223372036854775807:Int); omega)
     rotate_left
     (exfalso; omega)
     all_goals exact fin
   ·rw [List.drop_eq_nil_of_le (by omega)] at hi
    have hi:nf t f s.os 0=n:=hi
    by_cases h2:n < 2
    ·have hw:strs ((bars s l t f).map Br.w)=[Data.str [112,114,111,116,101,99,116,101,100],Data.str [111,102,102,105,99,101,115]]:=by unfold bars few; rw [hb0,hb1,hi,decide_eq_true h2]; rfl
     rw [hw]
     refine sd ?_
     refine b_lt (fun t1=>?_) (fun t1=>?_)
     (exfalso; omega)
     refine sd ?_
     refine b_lt (fun t2=>?_) (fun t2=>?_)
     refine sd ?_
     refine sd ?_
     refine sd ?_
     refine an ?_ ?_
     refine an ?_ ?_
     exact rfl
     refine an ?_ ?_
     exact rfl
     refine an ?_ ?_
     exact rfl
     refine an ?_ ?_
     (show ((1:Nat)+(1:Nat)) * (16:Nat)≤(2:Nat) ^ (47:Nat); omega)
     (show (1:Nat)+(1:Nat)≤(2:Nat) ^ (47:Nat); omega)
     refine sd ?_
     exact rfl
     (exfalso; omega)
    ·have hw:strs ((bars s l t f).map Br.w)=[Data.str [112,114,111,116,101,99,116,101,100]]:=by unfold bars few; rw [hb0,hb1,hi,decide_eq_false h2]; rfl
     rw [hw]
     refine sd ?_
     refine b_lt (fun t1=>?_) (fun t1=>?_)
     (exfalso; omega)
     refine sd ?_
     refine b_lt (fun t2=>?_) (fun t2=>?_)
     (exfalso; omega)
     refine sd ?_
     exact rfl
  | false =>
   rw [hb1] at c52_
   refine call_of_vc (x:=jr62) (by kernel_rfl) rfl ?_
   rw [hb0] at c124_
   refine ca c124_ ?_
   refine ca c52_ ?_
   rotate_left
   refine loop_st (fun p:Kn=>⟨[(2,.d (.int .i64 t)),(3,.d (.int .i64 f)),(4,.ptr 0 0),(10,.nils 1),(11,.d (.int .i64 (p.n))),(12,.d (.int .i64 ((p.k:Nat))))],[.cbox [.bool true,.bool s.rd,.slice 2 (ods s.os)],.none,.none,.none,.none,.none,.none]⟩) (fun p=>(p.k≤s.os.length∧0≤p.n∧p.n≤p.k)∧nf t f s.os 0=nf t f (s.os.drop p.k) p.n) (fun p=>s.os.length - p.k) ⟨0,0⟩ rfl ⟨⟨Nat.zero_le _,Int.le_refl _,Int.le_refl _⟩,rfl⟩ ?_
   rintro ⟨k,n⟩ ⟨⟨hk,hn0,hn1⟩,hi⟩
   have hk:k≤s.os.length:=hk
   have hn0:0≤n:=hn0
   have hn1:n≤k:=hn1
   dsimp only at hi ⊢
   by_cases hkn:k < s.os.length
   ·refine Exists.elim (get_lt s.os hkn) fun o hx=>?_
    have hx1:=ods_at hx
    have hot:=ht o (List.mem_of_getElem? hx)
    rw [drop_at hx,nf] at hi
    by_cases hf:t - o.t≤f
    ·rw [decide_eq_true hf] at hi
     have fin:∃ a':Kn,(((a'.k≤s.os.length∧0≤a'.n∧a'.n≤a'.k)∧nf t f s.os 0=nf t f (s.os.drop a'.k) a'.n)∧s.os.length - a'.k < s.os.length - k)∧(⟨[(2,.d (.int .i64 t)),(3,.d (.int .i64 f)),(4,.ptr 0 0),(10,.nils 1),(11,.d (.int .i64 (n+1))),(12,.d (.int .i64 ((k:Int)+1)))],[.cbox [.bool true,.bool s.rd,.slice 2 (ods s.os)],.none,.none,.none,.none,.none,.none]⟩:St)=⟨[(2,.d (.int .i64 t)),(3,.d (.int .i64 f)),(4,.ptr 0 0),(10,.nils 1),(11,.d (.int .i64 (a'.n))),(12,.d (.int .i64 ((a'.k:Nat))))],[.cbox [.bool true,.bool s.rd,.slice 2 (ods s.os)],.none,.none,.none,.none,.none,.none]⟩:=⟨⟨k+1,n+1⟩,⟨⟨⟨by show k+1≤_; omega,by show 0≤n+1; omega,by show n+1≤((k+1:Nat):Int); omega⟩,hi⟩,by show s.os.length - (k+1) < _; omega⟩,rfl⟩
     refine sd ?_
     refine b_lt (fun t1=>?_) (fun t1=>?_)
     refine ix_at hx1 ?_ ?_
     (show (0:Int)≤(↑k:Int); omega)
     refine ar_sub ?_ ?_
     refine an ?_ ?_
     (show (-9223372036854775808:Int)≤t - Od.t o; omega)
     (show t - Od.t o≤(9223372036854775807:Int); omega)
     refine sd ?_
     refine b_le (fun t2=>?_) (fun t2=>?_)
     refine ar_add ?_ ?_
     refine an ?_ ?_
     (show (-9223372036854775808:Int)≤n+(1:Int); omega)
     (show n+(1:Int)≤(9223372036854775807:Int); omega)
     refine ar_add ?_ ?_
     refine an ?_ ?_
     (show (-9223372036854775808:Int)≤(↑k:Int)+(1:Int); omega)
     (show (↑k:Int)+(1:Int)≤(9223372036854775807:Int); omega)
     rotate_left
     (exfalso; omega)
     (exfalso; omega)
     all_goals exact fin
    ·rw [decide_eq_false hf] at hi
     have fin:∃ a':Kn,(((a'.k≤s.os.length∧0≤a'.n∧a'.n≤a'.k)∧nf t f s.os 0=nf t f (s.os.drop a'.k) a'.n)∧s.os.length - a'.k < s.os.length - k)∧(⟨[(2,.d (.int .i64 t)),(3,.d (.int .i64 f)),(4,.ptr 0 0),(10,.nils 1),(11,.d (.int .i64 (n))),(12,.d (.int .i64 ((k:Int)+1)))],[.cbox [.bool true,.bool s.rd,.slice 2 (ods s.os)],.none,.none,.none,.none,.none,.none]⟩:St)=⟨[(2,.d (.int .i64 t)),(3,.d (.int .i64 f)),(4,.ptr 0 0),(10,.nils 1),(11,.d (.int .i64 (a'.n))),(12,.d (.int .i64 ((a'.k:Nat))))],[.cbox [.bool true,.bool s.rd,.slice 2 (ods s.os)],.none,.none,.none,.none,.none,.none]⟩:=⟨⟨k+1,n⟩,⟨⟨⟨by show k+1≤_; omega,hn0,by show n≤((k+1:Nat):Int); omega⟩,hi⟩,by show s.os.length - (k+1) < _; omega⟩,rfl⟩
     refine sd ?_
     refine b_lt (fun t1=>?_) (fun t1=>?_)
     refine ix_at hx1 ?_ ?_
     (show (0:Int)≤(↑k:Int); omega)
     refine ar_sub ?_ ?_
     refine an ?_ ?_
     (show (-9223372036854775808:Int)≤t - Od.t o; omega)
     (show t - Od.t o≤(9223372036854775807:Int); omega)
     refine sd ?_
     refine b_le (fun t2=>?_) (fun t2=>?_)
     (exfalso; omega)
     refine ar_add ?_ ?_
     refine an ?_ ?_
     (show (-9223372036854775808:Int)≤(↑k:Int)+(1:Int); omega)
     (show (↑k:Int)+(1:Int)≤(9223372036854775807:Int); omega)
     rotate_left
     (exfalso; omega)
     all_goals exact fin
   ·rw [List.drop_eq_nil_of_le (by omega)] at hi
    have hi:nf t f s.os 0=n:=hi
    by_cases h2:n < 2
    ·have hw:strs ((bars s l t f).map Br.w)=[Data.str [111,102,102,105,99,101,115]]:=by unfold bars few; rw [hb0,hb1,hi,decide_eq_true h2]; rfl
     rw [hw]
     refine sd ?_
     refine b_lt (fun t1=>?_) (fun t1=>?_)
     (exfalso; omega)
     refine sd ?_
     refine b_lt (fun t2=>?_) (fun t2=>?_)
     refine sd ?_
     refine sd ?_
     refine sd ?_
     refine an ?_ ?_
     refine an ?_ ?_
     (show (1:Nat) * (16:Nat)≤(2:Nat) ^ (47:Nat); omega)
     (show (1:Nat)≤(2:Nat) ^ (47:Nat); omega)
     refine sd ?_
     exact rfl
     (exfalso; omega)
    ·have hw:strs ((bars s l t f).map Br.w)=[]:=by unfold bars few; rw [hb0,hb1,hi,decide_eq_false h2]; rfl
     rw [hw]
     refine sd ?_
     refine b_lt (fun t1=>?_) (fun t1=>?_)
     (exfalso; omega)
     refine sd ?_
     refine b_lt (fun t2=>?_) (fun t2=>?_)
     (exfalso; omega)
     exact rfl
 | false =>
  cases hb1:prL l t with
  | true =>
   rw [hb1] at c52_
   refine call_of_vc (x:=jr62) (by kernel_rfl) rfl ?_
   rw [hb0] at c124_
   refine ca c124_ ?_
   refine sd ?_
   refine sd ?_
   refine sd ?_
   refine an ?_ ?_
   refine an ?_ ?_
   (show (1:Nat) * (16:Nat)≤(2:Nat) ^ (47:Nat); omega)
   (show (1:Nat)≤(2:Nat) ^ (47:Nat); omega)
   refine ca c52_ ?_
   refine sd ?_
   refine sd ?_
   refine sd ?_
   refine an ?_ ?_
   refine an ?_ ?_
   exact rfl
   refine an ?_ ?_
   exact rfl
   refine an ?_ ?_
   exact rfl
   refine an ?_ ?_
   (show ((1:Nat)+(1:Nat)) * (16:Nat)≤(2:Nat) ^ (47:Nat); omega)
   (show (1:Nat)+(1:Nat)≤(2:Nat) ^ (47:Nat); omega)
   rotate_left
   refine loop_st (fun p:Kn=>⟨[(2,.d (.int .i64 t)),(3,.d (.int .i64 f)),(4,.ptr 0 0),(10,.sl 2 2),(11,.d (.int .i64 (p.n))),(12,.d (.int .i64 ((p.k:Nat))))],[.cbox [.bool false,.bool s.rd,.slice 2 (ods s.os)],.none,.row 9 1 [Data.str [111,102,102],Data.str [112,114,111,116,101,99,116,101,100]] false,.none,.none,.none,.none]⟩) (fun p=>(p.k≤s.os.length∧0≤p.n∧p.n≤p.k)∧nf t f s.os 0=nf t f (s.os.drop p.k) p.n) (fun p=>s.os.length - p.k) ⟨0,0⟩ rfl ⟨⟨Nat.zero_le _,Int.le_refl _,Int.le_refl _⟩,rfl⟩ ?_
   rintro ⟨k,n⟩ ⟨⟨hk,hn0,hn1⟩,hi⟩
   have hk:k≤s.os.length:=hk
   have hn0:0≤n:=hn0
   have hn1:n≤k:=hn1
   dsimp only at hi ⊢
   by_cases hkn:k < s.os.length
   ·refine Exists.elim (get_lt s.os hkn) fun o hx=>?_
    have hx1:=ods_at hx
    have hot:=ht o (List.mem_of_getElem? hx)
    rw [drop_at hx,nf] at hi
    by_cases hf:t - o.t≤f
    ·rw [decide_eq_true hf] at hi
     have fin:∃ a':Kn,(((a'.k≤s.os.length∧0≤a'.n∧a'.n≤a'.k)∧nf t f s.os 0=nf t f (s.os.drop a'.k) a'.n)∧s.os.length - a'.k < s.os.length - k)∧(⟨[(2,.d (.int .i64 t)),(3,.d (.int .i64 f)),(4,.ptr 0 0),(10,.sl 2 2),(11,.d (.int .i64 (n+1))),(12,.d (.int .i64 ((k:Int)+1)))],[.cbox [.bool false,.bool s.rd,.slice 2 (ods s.os)],.none,.row 9 1 [Data.str [111,102,102],Data.str [112,114,111,116,101,99,116,101,100]] false,.none,.none,.none,.none]⟩:St)=⟨[(2,.d (.int .i64 t)),(3,.d (.int .i64 f)),(4,.ptr 0 0),(10,.sl 2 2),(11,.d (.int .i64 (a'.n))),(12,.d (.int .i64 ((a'.k:Nat))))],[.cbox [.bool false,.bool s.rd,.slice 2 (ods s.os)],.none,.row 9 1 [Data.str [111,102,102],Data.str [112,114,111,116,101,99,116,101,100]] false,.none,.none,.none,.none]⟩:=⟨⟨k+1,n+1⟩,⟨⟨⟨by show k+1≤_; omega,by show 0≤n+1; omega,by show n+1≤((k+1:Nat):Int); omega⟩,hi⟩,by show s.os.length - (k+1) < _; omega⟩,rfl⟩
     refine sd ?_
     refine b_lt (fun t1=>?_) (fun t1=>?_)
     refine ix_at hx1 ?_ ?_
     (show (0:Int)≤(↑k:Int); omega)
     refine ar_sub ?_ ?_
     refine an ?_ ?_
     (show (-9223372036854775808:Int)≤t - Od.t o; omega)
     (show t - Od.t o≤(9223372036854775807:Int); omega)
     refine sd ?_
     refine b_le (fun t2=>?_) (fun t2=>?_)
     refine ar_add ?_ ?_
     refine an ?_ ?_
     (show (-9223372036854775808:Int)≤n+(1:Int); omega)
     (show n+(1:Int)≤(9223372036854775807:Int); omega)
     refine ar_add ?_ ?_
     refine an ?_ ?_
     (show (-9223372036854775808:Int)≤(↑k:Int)+(1:Int); omega)
     (show (↑k:Int)+(1:Int)≤(9223372036854775807:Int); omega)
     rotate_left
     (exfalso; omega)
     (exfalso; omega)
     all_goals exact fin
    ·rw [decide_eq_false hf] at hi
     have fin:∃ a':Kn,(((a'.k≤s.os.length∧0≤a'.n∧a'.n≤a'.k)∧nf t f s.os 0=nf t f (s.os.drop a'.k) a'.n)∧s.os.length - a'.k < s.os.length - k)∧(⟨[(2,.d (.int .i64 t)),(3,.d (.int .i64 f)),(4,.ptr 0 0),(10,.sl 2 2),(11,.d (.int .i64 (n))),(12,.d (.int .i64 ((k:Int)+1)))],[.cbox [.bool false,.bool s.rd,.slice 2 (ods s.os)],.none,.row 9 1 [Data.str [111,102,102],Data.str [112,114,111,116,101,99,116,101,100]] false,.none,.none,.none,.none]⟩:St)=⟨[(2,.d (.int .i64 t)),(3,.d (.int .i64 f)),(4,.ptr 0 0),(10,.sl 2 2),(11,.d (.int .i64 (a'.n))),(12,.d (.int .i64 ((a'.k:Nat))))],[.cbox [.bool false,.bool s.rd,.slice 2 (ods s.os)],.none,.row 9 1 [Data.str [111,102,102],Data.str [112,114,111,116,101,99,116,101,100]] false,.none,.none,.none,.none]⟩:=⟨⟨k+1,n⟩,⟨⟨⟨by show k+1≤_; omega,hn0,by show n≤((k+1:Nat):Int); omega⟩,hi⟩,by show s.os.length - (k+1) < _; omega⟩,rfl⟩
     refine sd ?_
     refine b_lt (fun t1=>?_) (fun t1=>?_)
     refine ix_at hx1 ?_ ?_
     (show (0:Int)≤(↑k:Int); omega)
     refine ar_sub ?_ ?_
     refine an ?_ ?_
     (show (-9223372036854775808:Int)≤t - Od.t o; omega)
     (show t - Od.t o≤(9223372036854775807:Int); omega)
     refine sd ?_
     refine b_le (fun t2=>?_) (fun t2=>?_)
     (exfalso; omega)
     refine ar_add ?_ ?_
     refine an ?_ ?_
     (show (-9223372036854775808:Int)≤(↑k:Int)+(1:Int); omega)
     (show (↑k:Int)+(1:Int)≤(9223372036854775807:Int); omega)
     rotate_left
     (exfalso; omega)
     all_goals exact fin
   ·rw [List.drop_eq_nil_of_le (by omega)] at hi
    have hi:nf t f s.os 0=n:=hi
    by_cases h2:n < 2
    ·have hw:strs ((bars s l t f).map Br.w)=[Data.str [111,102,102],Data.str [112,114,111,116,101,99,116,101,100],Data.str [111,102,102,105,99,101,115]]:=by unfold bars few; rw [hb0,hb1,hi,decide_eq_true h2]; rfl
     rw [hw]
     refine sd ?_
     refine b_lt (fun t1=>?_) (fun t1=>?_)
     (exfalso; omega)
     refine sd ?_
     refine b_lt (fun t2=>?_) (fun t2=>?_)
     refine sd ?_
     refine sd ?_
     refine sd ?_
     refine an ?_ ?_
     refine an ?_ ?_
     exact rfl
     refine an ?_ ?_
     exact rfl
     refine an ?_ ?_
     exact rfl
     refine an ?_ ?_
     (show ((1:Nat)+(1:Nat)+(1:Nat)) * (16:Nat)≤(2:Nat) ^ (47:Nat); omega)
     (show (1:Nat)+(1:Nat)+(1:Nat)≤(2:Nat) ^ (47:Nat); omega)
     refine sd ?_
     exact rfl
     (exfalso; omega)
    ·have hw:strs ((bars s l t f).map Br.w)=[Data.str [111,102,102],Data.str [112,114,111,116,101,99,116,101,100]]:=by unfold bars few; rw [hb0,hb1,hi,decide_eq_false h2]; rfl
     rw [hw]
     refine sd ?_
     refine b_lt (fun t1=>?_) (fun t1=>?_)
     (exfalso; omega)
     refine sd ?_
     refine b_lt (fun t2=>?_) (fun t2=>?_)
     (exfalso; omega)
     refine sd ?_
     exact rfl
  | false =>
   rw [hb1] at c52_
   refine call_of_vc (x:=jr62) (by kernel_rfl) rfl ?_
   rw [hb0] at c124_
   refine ca c124_ ?_
   refine sd ?_
   refine sd ?_
   refine sd ?_
   refine an ?_ ?_
   refine an ?_ ?_
   (show (1:Nat) * (16:Nat)≤(2:Nat) ^ (47:Nat); omega)
   (show (1:Nat)≤(2:Nat) ^ (47:Nat); omega)
   refine ca c52_ ?_
   rotate_left
   refine loop_st (fun p:Kn=>⟨[(2,.d (.int .i64 t)),(3,.d (.int .i64 f)),(4,.ptr 0 0),(10,.sl 2 1),(11,.d (.int .i64 (p.n))),(12,.d (.int .i64 ((p.k:Nat))))],[.cbox [.bool false,.bool s.rd,.slice 2 (ods s.os)],.none,.row 9 1 [Data.str [111,102,102]] false,.none,.none,.none,.none]⟩) (fun p=>(p.k≤s.os.length∧0≤p.n∧p.n≤p.k)∧nf t f s.os 0=nf t f (s.os.drop p.k) p.n) (fun p=>s.os.length - p.k) ⟨0,0⟩ rfl ⟨⟨Nat.zero_le _,Int.le_refl _,Int.le_refl _⟩,rfl⟩ ?_
   rintro ⟨k,n⟩ ⟨⟨hk,hn0,hn1⟩,hi⟩
   have hk:k≤s.os.length:=hk
   have hn0:0≤n:=hn0
   have hn1:n≤k:=hn1
   dsimp only at hi ⊢
   by_cases hkn:k < s.os.length
   ·refine Exists.elim (get_lt s.os hkn) fun o hx=>?_
    have hx1:=ods_at hx
    have hot:=ht o (List.mem_of_getElem? hx)
    rw [drop_at hx,nf] at hi
    by_cases hf:t - o.t≤f
    ·rw [decide_eq_true hf] at hi
     have fin:∃ a':Kn,(((a'.k≤s.os.length∧0≤a'.n∧a'.n≤a'.k)∧nf t f s.os 0=nf t f (s.os.drop a'.k) a'.n)∧s.os.length - a'.k < s.os.length - k)∧(⟨[(2,.d (.int .i64 t)),(3,.d (.int .i64 f)),(4,.ptr 0 0),(10,.sl 2 1),(11,.d (.int .i64 (n+1))),(12,.d (.int .i64 ((k:Int)+1)))],[.cbox [.bool false,.bool s.rd,.slice 2 (ods s.os)],.none,.row 9 1 [Data.str [111,102,102]] false,.none,.none,.none,.none]⟩:St)=⟨[(2,.d (.int .i64 t)),(3,.d (.int .i64 f)),(4,.ptr 0 0),(10,.sl 2 1),(11,.d (.int .i64 (a'.n))),(12,.d (.int .i64 ((a'.k:Nat))))],[.cbox [.bool false,.bool s.rd,.slice 2 (ods s.os)],.none,.row 9 1 [Data.str [111,102,102]] false,.none,.none,.none,.none]⟩:=⟨⟨k+1,n+1⟩,⟨⟨⟨by show k+1≤_; omega,by show 0≤n+1; omega,by show n+1≤((k+1:Nat):Int); omega⟩,hi⟩,by show s.os.length - (k+1) < _; omega⟩,rfl⟩
     refine sd ?_
     refine b_lt (fun t1=>?_) (fun t1=>?_)
     refine ix_at hx1 ?_ ?_
     (show (0:Int)≤(↑k:Int); omega)
     refine ar_sub ?_ ?_
     refine an ?_ ?_
     (show (-9223372036854775808:Int)≤t - Od.t o; omega)
     (show t - Od.t o≤(9223372036854775807:Int); omega)
     refine sd ?_
     refine b_le (fun t2=>?_) (fun t2=>?_)
     refine ar_add ?_ ?_
     refine an ?_ ?_
     (show (-9223372036854775808:Int)≤n+(1:Int); omega)
     (show n+(1:Int)≤(9223372036854775807:Int); omega)
     refine ar_add ?_ ?_
     refine an ?_ ?_
     (show (-9223372036854775808:Int)≤(↑k:Int)+(1:Int); omega)
     (show (↑k:Int)+(1:Int)≤(9223372036854775807:Int); omega)
     rotate_left
     (exfalso; omega)
     (exfalso; omega)
     all_goals exact fin
    ·rw [decide_eq_false hf] at hi
     have fin:∃ a':Kn,(((a'.k≤s.os.length∧0≤a'.n∧a'.n≤a'.k)∧nf t f s.os 0=nf t f (s.os.drop a'.k) a'.n)∧s.os.length - a'.k < s.os.length - k)∧(⟨[(2,.d (.int .i64 t)),(3,.d (.int .i64 f)),(4,.ptr 0 0),(10,.sl 2 1),(11,.d (.int .i64 (n))),(12,.d (.int .i64 ((k:Int)+1)))],[.cbox [.bool false,.bool s.rd,.slice 2 (ods s.os)],.none,.row 9 1 [Data.str [111,102,102]] false,.none,.none,.none,.none]⟩:St)=⟨[(2,.d (.int .i64 t)),(3,.d (.int .i64 f)),(4,.ptr 0 0),(10,.sl 2 1),(11,.d (.int .i64 (a'.n))),(12,.d (.int .i64 ((a'.k:Nat))))],[.cbox [.bool false,.bool s.rd,.slice 2 (ods s.os)],.none,.row 9 1 [Data.str [111,102,102]] false,.none,.none,.none,.none]⟩:=⟨⟨k+1,n⟩,⟨⟨⟨by show k+1≤_; omega,hn0,by show n≤((k+1:Nat):Int); omega⟩,hi⟩,by show s.os.length - (k+1) < _; omega⟩,rfl⟩
     refine sd ?_
     refine b_lt (fun t1=>?_) (fun t1=>?_)
     refine ix_at hx1 ?_ ?_
     (show (0:Int)≤(↑k:Int); omega)
     refine ar_sub ?_ ?_
     refine an ?_ ?_
     (show (-9223372036854775808:Int)≤t - Od.t o; omega)
     (show t - Od.t o≤(9223372036854775807:Int); omega)
     refine sd ?_
     refine b_le (fun t2=>?_) (fun t2=>?_)
     (exfalso; omega)
     refine ar_add ?_ ?_
     refine an ?_ ?_
     (show (-9223372036854775808:Int)≤(↑k:Int)+(1:Int); omega)
     (show (↑k:Int)+(1:Int)≤(9223372036854775807:Int); omega)
     rotate_left
     (exfalso; omega)
     all_goals exact fin
   ·rw [List.drop_eq_nil_of_le (by omega)] at hi
    have hi:nf t f s.os 0=n:=hi
    by_cases h2:n < 2
    ·have hw:strs ((bars s l t f).map Br.w)=[Data.str [111,102,102],Data.str [111,102,102,105,99,101,115]]:=by unfold bars few; rw [hb0,hb1,hi,decide_eq_true h2]; rfl
     rw [hw]
     refine sd ?_
     refine b_lt (fun t1=>?_) (fun t1=>?_)
     (exfalso; omega)
     refine sd ?_
     refine b_lt (fun t2=>?_) (fun t2=>?_)
     refine sd ?_
     refine sd ?_
     refine sd ?_
     refine an ?_ ?_
     refine an ?_ ?_
     exact rfl
     refine an ?_ ?_
     exact rfl
     refine an ?_ ?_
     exact rfl
     refine an ?_ ?_
     (show ((1:Nat)+(1:Nat)) * (16:Nat)≤(2:Nat) ^ (47:Nat); omega)
     (show (1:Nat)+(1:Nat)≤(2:Nat) ^ (47:Nat); omega)
     refine sd ?_
     exact rfl
     (exfalso; omega)
    ·have hw:strs ((bars s l t f).map Br.w)=[Data.str [111,102,102]]:=by unfold bars few; rw [hb0,hb1,hi,decide_eq_false h2]; rfl
     rw [hw]
     refine sd ?_
     refine b_lt (fun t1=>?_) (fun t1=>?_)
     (exfalso; omega)
     refine sd ?_
     refine b_lt (fun t2=>?_) (fun t2=>?_)
     (exfalso; omega)
     refine sd ?_
     exact rfl
theorem opE_0 {s:Sw} {l:List Hr} {t f:Int} (h:apE s l t f=0):opE s l t f=firstOf ((bars s l t f).map Br.e):=by unfold opE; rw [h]; rfl
theorem c63 (s:Sw) (l:List Hr) (t f:Int) (h:apE s l t f=0):CallDet Tryz.prog 63 [.d (.agg [.bool s.on,.bool s.rd,.slice 2 (ods s.os)]),.d (.slice 9 (hrs l)),.d (.int .i64 t),.d (.int .i64 f)] [.agg [.bool false,.bool false,.slice 2 []],.int .i64 (opE s l t f)]:=by
 have c62_:=c62 s l t f h
 rw [opE_0 h]
 cases hb0:s.on <;> cases hb1:prL l t <;> cases hb2:few s t f
 ·have hb:bars s l t f=w0 true++w1 false++w2 false:=by unfold bars; rw [hb0,hb1,hb2]; rfl
  have hw:strs ((bars s l t f).map Br.w)=[Data.str [111,102,102]]:=by rw [hb]; rfl
  have he:firstOf ((bars s l t f).map Br.e)=22:=by rw [hb]; rfl
  rw [hw,hb0] at c62_
  rw [he]
  have hx0:([Data.str [111,102,102]]:List Data)[((0:Int)).toNat]?=some (Data.str [111,102,102]):=rfl
  refine call_of_vc (x:=jr63) (by kernel_rfl) rfl ?_
  refine ca c62_ ?_
  refine sd ?_
  refine sd ?_
  refine ix_at hx0 ?_ ?_
  (show (0:Int)≤(0:Int); omega)
  exact rfl
 ·have hb:bars s l t f=w0 true++w1 false++w2 true:=by unfold bars; rw [hb0,hb1,hb2]; rfl
  have hw:strs ((bars s l t f).map Br.w)=[Data.str [111,102,102],Data.str [111,102,102,105,99,101,115]]:=by rw [hb]; rfl
  have he:firstOf ((bars s l t f).map Br.e)=22:=by rw [hb]; rfl
  rw [hw,hb0] at c62_
  rw [he]
  have hx0:([Data.str [111,102,102],Data.str [111,102,102,105,99,101,115]]:List Data)[((0:Int)).toNat]?=some (Data.str [111,102,102]):=rfl
  refine call_of_vc (x:=jr63) (by kernel_rfl) rfl ?_
  refine ca c62_ ?_
  refine sd ?_
  refine sd ?_
  refine ix_at hx0 ?_ ?_
  (show (0:Int)≤(0:Int); omega)
  exact rfl
 ·have hb:bars s l t f=w0 true++w1 true++w2 false:=by unfold bars; rw [hb0,hb1,hb2]; rfl
  have hw:strs ((bars s l t f).map Br.w)=[Data.str [111,102,102],Data.str [112,114,111,116,101,99,116,101,100]]:=by rw [hb]; rfl
  have he:firstOf ((bars s l t f).map Br.e)=22:=by rw [hb]; rfl
  rw [hw,hb0] at c62_
  rw [he]
  have hx0:([Data.str [111,102,102],Data.str [112,114,111,116,101,99,116,101,100]]:List Data)[((0:Int)).toNat]?=some (Data.str [111,102,102]):=rfl
  refine call_of_vc (x:=jr63) (by kernel_rfl) rfl ?_
  refine ca c62_ ?_
  refine sd ?_
  refine sd ?_
  refine ix_at hx0 ?_ ?_
  (show (0:Int)≤(0:Int); omega)
  exact rfl
 ·have hb:bars s l t f=w0 true++w1 true++w2 true:=by unfold bars; rw [hb0,hb1,hb2]; rfl
  have hw:strs ((bars s l t f).map Br.w)=[Data.str [111,102,102],Data.str [112,114,111,116,101,99,116,101,100],Data.str [111,102,102,105,99,101,115]]:=by rw [hb]; rfl
  have he:firstOf ((bars s l t f).map Br.e)=22:=by rw [hb]; rfl
  rw [hw,hb0] at c62_
  rw [he]
  have hx0:([Data.str [111,102,102],Data.str [112,114,111,116,101,99,116,101,100],Data.str [111,102,102,105,99,101,115]]:List Data)[((0:Int)).toNat]?=some (Data.str [111,102,102]):=rfl
  refine call_of_vc (x:=jr63) (by kernel_rfl) rfl ?_
  refine ca c62_ ?_
  refine sd ?_
  refine sd ?_
  refine ix_at hx0 ?_ ?_
  (show (0:Int)≤(0:Int); omega)
  exact rfl
 ·have hb:bars s l t f=w0 false++w1 false++w2 false:=by unfold bars; rw [hb0,hb1,hb2]; rfl
  have hw:strs ((bars s l t f).map Br.w)=[]:=by rw [hb]; rfl
  have he:firstOf ((bars s l t f).map Br.e)=0:=by rw [hb]; rfl
  rw [hw,hb0] at c62_
  rw [he]
  refine call_of_vc (x:=jr63) (by kernel_rfl) rfl ?_
  refine ca c62_ ?_
  refine sd ?_
  refine sd ?_
  exact rfl
 ·have hb:bars s l t f=w0 false++w1 false++w2 true:=by unfold bars; rw [hb0,hb1,hb2]; rfl
  have hw:strs ((bars s l t f).map Br.w)=[Data.str [111,102,102,105,99,101,115]]:=by rw [hb]; rfl
  have he:firstOf ((bars s l t f).map Br.e)=30:=by rw [hb]; rfl
  rw [hw,hb0] at c62_
  rw [he]
  have hx0:([Data.str [111,102,102,105,99,101,115]]:List Data)[((0:Int)).toNat]?=some (Data.str [111,102,102,105,99,101,115]):=rfl
  refine call_of_vc (x:=jr63) (by kernel_rfl) rfl ?_
  refine ca c62_ ?_
  refine sd ?_
  refine sd ?_
  refine ix_at hx0 ?_ ?_
  (show (0:Int)≤(0:Int); omega)
  exact rfl
 ·have hb:bars s l t f=w0 false++w1 true++w2 false:=by unfold bars; rw [hb0,hb1,hb2]; rfl
  have hw:strs ((bars s l t f).map Br.w)=[Data.str [112,114,111,116,101,99,116,101,100]]:=by rw [hb]; rfl
  have he:firstOf ((bars s l t f).map Br.e)=31:=by rw [hb]; rfl
  rw [hw,hb0] at c62_
  rw [he]
  have hx0:([Data.str [112,114,111,116,101,99,116,101,100]]:List Data)[((0:Int)).toNat]?=some (Data.str [112,114,111,116,101,99,116,101,100]):=rfl
  refine call_of_vc (x:=jr63) (by kernel_rfl) rfl ?_
  refine ca c62_ ?_
  refine sd ?_
  refine sd ?_
  refine ix_at hx0 ?_ ?_
  (show (0:Int)≤(0:Int); omega)
  exact rfl
 ·have hb:bars s l t f=w0 false++w1 true++w2 true:=by unfold bars; rw [hb0,hb1,hb2]; rfl
  have hw:strs ((bars s l t f).map Br.w)=[Data.str [112,114,111,116,101,99,116,101,100],Data.str [111,102,102,105,99,101,115]]:=by rw [hb]; rfl
  have he:firstOf ((bars s l t f).map Br.e)=31:=by rw [hb]; rfl
  rw [hw,hb0] at c62_
  rw [he]
  have hx0:([Data.str [112,114,111,116,101,99,116,101,100],Data.str [111,102,102,105,99,101,115]]:List Data)[((0:Int)).toNat]?=some (Data.str [112,114,111,116,101,99,116,101,100]):=rfl
  refine call_of_vc (x:=jr63) (by kernel_rfl) rfl ?_
  refine ca c62_ ?_
  refine sd ?_
  refine sd ?_
  refine ix_at hx0 ?_ ?_
  (show (0:Int)≤(0:Int); omega)
  exact rfl
def fcE (s:Sw) (l:List Hr) (t f:Int):Int:=firstOf [ckS s,ckH l,within3 t 0 100000000,within3 f 0 1000000]
theorem fo_app:∀ {a:List Int} {x:Int},firstOf (a++[x])=bif firstOf a != 0 then firstOf a else x
 | [],x=>by
  show (bif x != 0 then x else 0)=_
  by_cases h:x=0
  ·rw [h]; rfl
  ·rw [bne_t h]; rfl
 | y::r,x=>by
  show firstOf (y::(r++[x]))=_
  by_cases h:y=0
  ·rw [h,fo_z,fo_z,fo_app]
  ·rw [fo_nz h,fo_nz h,bne_t h]; rfl
theorem apE_eq (s:Sw) (l:List Hr) (t f:Int):apE s l t f=bif fcE s l t f != 0 then fcE s l t f else bif decide (t < lst s) then 11 else 0 :=
 fo_app (a:=[ckS s,ckH l,within3 t 0 100000000,within3 f 0 1000000])
theorem apE_f {s:Sw} {l:List Hr} {t f:Int} (h:¬ fcE s l t f=0):apE s l t f=fcE s l t f:=by rw [apE_eq,bne_t h]; rfl
theorem late_x (s:Sw) (l:List Hr) (t f:Int) (h:fcE s l t f=0) (ha:¬ apE s l t f=0):apE s l t f=11∧CallDet Tryz.prog 62 [.d (.agg [.bool s.on,.bool s.rd,.slice 2 (ods s.os)]),.d (.slice 9 (hrs l)),.d (.int .i64 t),.d (.int .i64 f)] [.slice 1 [],.int .i64 11]∧CallDet Tryz.prog 63 [.d (.agg [.bool s.on,.bool s.rd,.slice 2 (ods s.os)]),.d (.slice 9 (hrs l)),.d (.int .i64 t),.d (.int .i64 f)] [.agg [.bool false,.bool false,.slice 2 []],.int .i64 11]:=by
 have he:=apE_eq s l t f
 rw [h] at he
 have he:apE s l t f=bif decide (t < lst s) then 11 else 0:=he
 have hlast:t < lst s:=by
  by_cases hq:t < lst s
  ·exact hq
  ·rw [decide_eq_false hq] at he; exact absurd he ha
 rw [decide_eq_true hlast] at he
 have hc:=firstOf_zero h (ckS s) (by simp)
 have hw:=within_ok (firstOf_zero h (within3 t 0 100000000) (by simp))
 have hs:=ckS_len hc
 have c124_:=c124 s t (by omega) hw.1
 rw [decide_eq_true hlast] at c124_
 have c62_:CallDet Tryz.prog 62 [.d (.agg [.bool s.on,.bool s.rd,.slice 2 (ods s.os)]),.d (.slice 9 (hrs l)),.d (.int .i64 t),.d (.int .i64 f)] [.slice 1 [],.int .i64 11]:=by
  refine call_of_vc (x:=jr62) (by kernel_rfl) rfl ?_
  refine ca c124_ ?_
  exact rfl
 refine ⟨he,c62_,?_⟩
 refine call_of_vc (x:=jr63) (by kernel_rfl) rfl ?_
 refine ca c62_ ?_
 refine sd ?_
 exact rfl
theorem c65e (e:Int):CallDet Tryz.prog 65 [.d (.agg [.bool false,.bool false,.slice 2 []]),.d (.int .i64 e),.d (.int .i64 e),.d (.agg [.bool false,.bool false,.slice 2 []])] [.bool true]:=by
 by_cases h:e=0
 ·subst h; exact c65s ⟨false,false,[]⟩ (by simp)
 ·exact c65z e h false false []
theorem c7 (s:Sw) (l:List Hr) (t f:Int) (hs:s.os.length≤1048576) (hl:l.length≤1048576):CallDet Tryz.prog 7 [.d (.agg [.bool s.on,.bool s.rd,.slice 2 (ods s.os)]),.d (.slice 9 (hrs l)),.d (.agg [.int .i64 t,.int .i64 f])] [.bool true]:=by
 have hll:=hrs_len l
 have c56_:=c56 s hs
 have c58_:=c58 s hs
 have c47_:=c47 l hl
 have c60_:=c60 s hs
 have c50_:=c50 l hl
 have c51_:=c51 t
 have c61_:=c61 f
 have c57_:=c57 s l t f hs hl
 have c59_:=c59 s l t f hs hl
 have c65_:=c65e (opE s l t f)
 have hbl:=bars_len s l t f
 cases hsh:shS s with
 | false =>
  rw [hsh] at c56_
  refine call_of_vc (x:=jr7) (by kernel_rfl) rfl ?_
  refine ca c56_ ?_
  refine sd ?_
  refine ca (c15) ?_
  exact rfl
 | true =>
  rw [hsh] at c56_
  by_cases h17:(17:Int) < (((hrs l).length:Nat):Int)
  ·refine call_of_vc (x:=jr7) (by kernel_rfl) rfl ?_
   refine ca c56_ ?_
   refine sd ?_
   refine b_lt (fun t1=>?_) (fun t1=>?_)
   refine ca (c15) ?_
   exact rfl
   (exfalso; omega)
  ·by_cases h:fcE s l t f=0
   ·have c21_:CallDet Tryz.prog 21 [.d (.slice 1 [.int .i64 (ckS s),.int .i64 (ckH l),.int .i64 (within3 t 0 100000000),.int .i64 (within3 f 0 1000000)])] [.int .i64 (fcE s l t f)]:=c21 [ckS s,ckH l,within3 t 0 100000000,within3 f 0 1000000] (by simp)
    rw [h] at c21_
    by_cases ha:apE s l t f=0
    ·have c62_:=c62 s l t f ha
     have c63_:=c63 s l t f ha
     have c64_:=c64 ((bars s l t f).map Br.w) (by rw [List.length_map]; omega)
     rw [ha] at c57_
     refine call_of_vc (x:=jr7) (by kernel_rfl) rfl ?_
     refine ca c56_ ?_
     refine sd ?_
     refine b_lt (fun t1=>?_) (fun t1=>?_)
     (exfalso; omega)
     refine ca c58_ ?_
     refine ca c47_ ?_
     refine an ?_ ?_
     refine an ?_ ?_
     (show (0:Int)≤(0:Int); omega)
     (show (0:Int) < (↑(2:Nat):Int); omega)
     refine an ?_ ?_
     refine an ?_ ?_
     (show (0:Int)≤(1:Int); omega)
     (show (1:Int) < (↑(2:Nat):Int); omega)
     refine ca c57_ ?_
     refine ca c58_ ?_
     refine ca c47_ ?_
     refine an ?_ ?_
     refine an ?_ ?_
     (show (0:Int)≤(0:Int); omega)
     (show (0:Int) < (↑(2:Nat):Int); omega)
     refine an ?_ ?_
     refine an ?_ ?_
     (show (0:Int)≤(1:Int); omega)
     (show (1:Int) < (↑(2:Nat):Int); omega)
     refine ca c59_ ?_
     refine ca c60_ ?_
     refine ca c50_ ?_
     refine an ?_ ?_
     refine an ?_ ?_
     (show (0:Int)≤(0:Int); omega)
     (show (0:Int) < (↑(2:Nat):Int); omega)
     refine ca c51_ ?_
     refine an ?_ ?_
     refine an ?_ ?_
     (show (0:Int)≤(1:Int); omega)
     (show (1:Int) < (↑(2:Nat):Int); omega)
     refine ca c61_ ?_
     refine sd ?_
     refine sd ?_
     refine ca c21_ ?_
     refine sd ?_
     refine an ?_ ?_
     refine an ?_ ?_
     (show (0:Int)≤(0:Int); omega)
     (show (0:Int) < (↑(2:Nat):Int); omega)
     refine an ?_ ?_
     refine an ?_ ?_
     (show (0:Int)≤(1:Int); omega)
     (show (1:Int) < (↑(2:Nat):Int); omega)
     refine ca c62_ ?_
     refine an ?_ ?_
     refine an ?_ ?_
     (show (0:Int)≤(0:Int); omega)
     (show (0:Int) < (↑(2:Nat):Int); omega)
     refine an ?_ ?_
     refine an ?_ ?_
     (show (0:Int)≤(1:Int); omega)
     (show (1:Int) < (↑(2:Nat):Int); omega)
     refine ca c63_ ?_
     refine ca c64_ ?_
     refine sd ?_
     refine ca c65_ ?_
     refine ca (c15) ?_
     exact rfl
    ·obtain ⟨ha2,c62_,c63_⟩:=late_x s l t f h ha
     have c64_:CallDet Tryz.prog 64 [.d (.slice 1 []),.d (.slice 1 [])] [.bool true]:=c64 [] (by simp)
     rw [ha2] at c57_
     have ho:opE s l t f=11:=by unfold opE; rw [ha2]; rfl
     rw [ho] at c59_ c65_
     refine call_of_vc (x:=jr7) (by kernel_rfl) rfl ?_
     refine ca c56_ ?_
     refine sd ?_
     refine b_lt (fun t1=>?_) (fun t1=>?_)
     (exfalso; omega)
     refine ca c58_ ?_
     refine ca c47_ ?_
     refine an ?_ ?_
     refine an ?_ ?_
     (show (0:Int)≤(0:Int); omega)
     (show (0:Int) < (↑(2:Nat):Int); omega)
     refine an ?_ ?_
     refine an ?_ ?_
     (show (0:Int)≤(1:Int); omega)
     (show (1:Int) < (↑(2:Nat):Int); omega)
     refine ca c57_ ?_
     refine ca c58_ ?_
     refine ca c47_ ?_
     refine an ?_ ?_
     refine an ?_ ?_
     (show (0:Int)≤(0:Int); omega)
     (show (0:Int) < (↑(2:Nat):Int); omega)
     refine an ?_ ?_
     refine an ?_ ?_
     (show (0:Int)≤(1:Int); omega)
     (show (1:Int) < (↑(2:Nat):Int); omega)
     refine ca c59_ ?_
     refine ca c60_ ?_
     refine ca c50_ ?_
     refine an ?_ ?_
     refine an ?_ ?_
     (show (0:Int)≤(0:Int); omega)
     (show (0:Int) < (↑(2:Nat):Int); omega)
     refine ca c51_ ?_
     refine an ?_ ?_
     refine an ?_ ?_
     (show (0:Int)≤(1:Int); omega)
     (show (1:Int) < (↑(2:Nat):Int); omega)
     refine ca c61_ ?_
     refine sd ?_
     refine sd ?_
     refine ca c21_ ?_
     refine sd ?_
     refine an ?_ ?_
     refine an ?_ ?_
     (show (0:Int)≤(0:Int); omega)
     (show (0:Int) < (↑(2:Nat):Int); omega)
     refine an ?_ ?_
     refine an ?_ ?_
     (show (0:Int)≤(1:Int); omega)
     (show (1:Int) < (↑(2:Nat):Int); omega)
     refine ca c62_ ?_
     refine an ?_ ?_
     refine an ?_ ?_
     (show (0:Int)≤(0:Int); omega)
     (show (0:Int) < (↑(2:Nat):Int); omega)
     refine an ?_ ?_
     refine an ?_ ?_
     (show (0:Int)≤(1:Int); omega)
     (show (1:Int) < (↑(2:Nat):Int); omega)
     refine ca c63_ ?_
     refine ca c64_ ?_
     refine sd ?_
     refine ca c65_ ?_
     refine ca (c15) ?_
     exact rfl
   ·have ha:apE s l t f=fcE s l t f:=apE_f h
    have c21_:CallDet Tryz.prog 21 [.d (.slice 1 [.int .i64 (ckS s),.int .i64 (ckH l),.int .i64 (within3 t 0 100000000),.int .i64 (within3 f 0 1000000)])] [.int .i64 (fcE s l t f)]:=c21 [ckS s,ckH l,within3 t 0 100000000,within3 f 0 1000000] (by simp)
    have c64_:CallDet Tryz.prog 64 [.d (.slice 1 []),.d (.slice 1 [])] [.bool true]:=c64 [] (by simp)
    rw [ha,bne_t h] at c57_
    have ho:opE s l t f=fcE s l t f:=by unfold opE; rw [ha,bne_t h]; rfl
    rw [ho] at c59_ c65_
    refine call_of_vc (x:=jr7) (by kernel_rfl) rfl ?_
    refine ca c56_ ?_
    refine sd ?_
    refine b_lt (fun t1=>?_) (fun t1=>?_)
    (exfalso; omega)
    refine ca c58_ ?_
    refine ca c47_ ?_
    refine an ?_ ?_
    refine an ?_ ?_
    (show (0:Int)≤(0:Int); omega)
    (show (0:Int) < (↑(2:Nat):Int); omega)
    refine an ?_ ?_
    refine an ?_ ?_
    (show (0:Int)≤(1:Int); omega)
    (show (1:Int) < (↑(2:Nat):Int); omega)
    refine ca c57_ ?_
    refine ca c58_ ?_
    refine ca c47_ ?_
    refine an ?_ ?_
    refine an ?_ ?_
    (show (0:Int)≤(0:Int); omega)
    (show (0:Int) < (↑(2:Nat):Int); omega)
    refine an ?_ ?_
    refine an ?_ ?_
    (show (0:Int)≤(1:Int); omega)
    (show (1:Int) < (↑(2:Nat):Int); omega)
    refine ca c59_ ?_
    refine ca c60_ ?_
    refine ca c50_ ?_
    refine an ?_ ?_
    refine an ?_ ?_
    (show (0:Int)≤(0:Int); omega)
    (show (0:Int) < (↑(2:Nat):Int); omega)
    refine ca c51_ ?_
    refine an ?_ ?_
    refine an ?_ ?_
    (show (0:Int)≤(1:Int); omega)
    (show (1:Int) < (↑(2:Nat):Int); omega)
    refine ca c61_ ?_
    refine sd ?_
    refine sd ?_
    refine ca c21_ ?_
    refine sd ?_
    refine b_eq (fun t2=>?_) (fun t2=>?_)
    (exfalso; omega)
    refine ca c64_ ?_
    refine sd ?_
    refine b_eq (fun t3=>?_) (fun t3=>?_)
    refine ca c65_ ?_
    refine ca (c15) ?_
    exact rfl
    (exfalso; omega)
end Vc
