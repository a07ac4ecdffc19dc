import Derived.Test.YtifgdpnmgeffbaaGreatDoorG10
import Derived.Test.YtifgdpnmgeffbaaGreatDoorG07
import Derived.Test.YtifgdpnmgeffbaaGreatDoorG12
import Derived.Test.YtifgdpnmgeffbaaGreatDoorG14
import Derived.Test.YtifgdpnmgeffbaaGreatDoorG15
set_option linter.unusedSectionVars false
set_option linter.unusedVariables false
set_option linter.unusedSimpArgs false
namespace Vc
open Go Go.Proofs
theorem int_fit {k:IntKind} {r:List CT} {ds:List Data} (h:Fits' (.int k::r) ds):∃ n t,ds=.int k n::t∧(Lit.int k n).wf=true∧Fits' r t:=by
 simp only [Fits',Fit] at h
 obtain ⟨d,t,rfl,⟨n,rfl,hn⟩,ht⟩:=h
 exact ⟨n,t,rfl,hn,ht⟩
theorem i64_fit {r:List CT} {ds:List Data} (h:Fits' (.int .i64::r) ds):∃ (n:Int) (t:List Data),ds=.int .i64 n::t∧(-9223372036854775808≤n∧n≤9223372036854775807)∧Fits' r t:=by
 obtain ⟨n,t,rfl,hn,ht⟩:=int_fit h
 refine ⟨n,t,rfl,?_,ht⟩
 simp [Lit.wf] at hn
 have h1:IntKind.i64.min=-9223372036854775808:=rfl
 have h2:IntKind.i64.max=9223372036854775807:=rfl
 omega
theorem str_fit {r:List CT} {ds:List Data} (h:Fits' (.str::r) ds):∃ b t,ds=.str b::t∧Fits' r t:=by
 simp only [Fits',Fit] at h
 obtain ⟨d,t,rfl,⟨b,rfl⟩,ht⟩:=h
 exact ⟨b,t,rfl,ht⟩
theorem fits_nil {ds:List Vc.Data} (h:Fits' [] ds):ds=[]:=by simpa only [Fits'] using h
end Vc
namespace Vc
open Go Go.Proofs
theorem lds_fit:∀ {es:List Data},(∀ e∈es,∃ ds,e=.agg ds∧Fits' [.str,.int .i64] ds)→∃ l:List Ld,es=lds l
 | [],_=>⟨[],rfl⟩
 | e::r,h=>by
  obtain ⟨ds,rfl,hd⟩:=h e List.mem_cons_self
  obtain ⟨s,t,rfl,h1⟩:=str_fit hd
  obtain ⟨n,t2,rfl,_,h2⟩:=i64_fit h1
  obtain rfl:=fits_nil h2
  obtain ⟨l,rfl⟩:=lds_fit (es:=r) fun x hx=>h x (List.mem_cons_of_mem _ hx)
  exact ⟨(s,n)::l,rfl⟩
theorem ldsl_fit {r:List CT} {ds:List Data} (h:Fits' (.sl true [.str,.int .i64]::r) ds):∃ (l:List Ld) (t:List Data),ds=.slice 2 (lds l)::t∧Fits' r t:=by
 simp only [Fits'] at h
 obtain ⟨d,t,rfl,hd,ht⟩:=h
 simp only [Fit] at hd
 obtain ⟨es,rfl,he⟩:=hd
 obtain ⟨l,rfl⟩:=lds_fit (es:=es) he
 exact ⟨l,t,rfl,ht⟩
theorem wgts_lds:∀ (l:List Ld),l.length≤wgts (lds l)
 | []=>Nat.zero_le _
 | x::r=>by
  have h:=wgts_lds r
  have e:wgts (lds (x::r))=((x.1.length+1)+(1+0))+wgts (lds r):=rfl
  rw [e]; simp only [List.length_cons]; omega
end Vc
set_option maxRecDepth 100000
set_option maxHeartbeats 4000000
namespace Vc
open Go Go.Proofs
theorem isortI_snoc:∀ (l acc:List Int) (x:Int),isortI acc (l++[x])=ioins x (isortI acc l)
 | [],_,_=>rfl
 | y::r,acc,x=>isortI_snoc r (ioins y acc) x
def lenB (k:Nat):Int:=match k with | 0=>0 | 1=>1 | 2=>2 | 3=>2 | 8=>4 | _=>3
theorem c168_0:CallDet Tryz.prog 168 [.d (.int .u64 ((0:Nat):Int))] [.int .i64 (lenB 0)] :=
 callDR_good row09_good (chkT_spec (chkT_room (m:=20) tab09_chk)) lib09_good (fuel:=1000) ((callFR_eq _ _ _ _ _ _ _).symm.trans (show callFR Tryz.prog row09 (getT (roomT 20 tab09)) lib09 1000 168 [.d (.int .u64 ((0:Nat):Int))]=some [.int .i64 (lenB 0)] by kernel_rfl))
theorem c168_1:CallDet Tryz.prog 168 [.d (.int .u64 ((1:Nat):Int))] [.int .i64 (lenB 1)] :=
 callDR_good row09_good (chkT_spec (chkT_room (m:=20) tab09_chk)) lib09_good (fuel:=1000) ((callFR_eq _ _ _ _ _ _ _).symm.trans (show callFR Tryz.prog row09 (getT (roomT 20 tab09)) lib09 1000 168 [.d (.int .u64 ((1:Nat):Int))]=some [.int .i64 (lenB 1)] by kernel_rfl))
theorem c168_2:CallDet Tryz.prog 168 [.d (.int .u64 ((2:Nat):Int))] [.int .i64 (lenB 2)] :=
 callDR_good row09_good (chkT_spec (chkT_room (m:=20) tab09_chk)) lib09_good (fuel:=1000) ((callFR_eq _ _ _ _ _ _ _).symm.trans (show callFR Tryz.prog row09 (getT (roomT 20 tab09)) lib09 1000 168 [.d (.int .u64 ((2:Nat):Int))]=some [.int .i64 (lenB 2)] by kernel_rfl))
theorem c168_3:CallDet Tryz.prog 168 [.d (.int .u64 ((3:Nat):Int))] [.int .i64 (lenB 3)] :=
 callDR_good row09_good (chkT_spec (chkT_room (m:=20) tab09_chk)) lib09_good (fuel:=1000) ((callFR_eq _ _ _ _ _ _ _).symm.trans (show callFR Tryz.prog row09 (getT (roomT 20 tab09)) lib09 1000 168 [.d (.int .u64 ((3:Nat):Int))]=some [.int .i64 (lenB 3)] by kernel_rfl))
theorem c168_4:CallDet Tryz.prog 168 [.d (.int .u64 ((4:Nat):Int))] [.int .i64 (lenB 4)] :=
 callDR_good row09_good (chkT_spec (chkT_room (m:=20) tab09_chk)) lib09_good (fuel:=1000) ((callFR_eq _ _ _ _ _ _ _).symm.trans (show callFR Tryz.prog row09 (getT (roomT 20 tab09)) lib09 1000 168 [.d (.int .u64 ((4:Nat):Int))]=some [.int .i64 (lenB 4)] by kernel_rfl))
theorem c168_5:CallDet Tryz.prog 168 [.d (.int .u64 ((5:Nat):Int))] [.int .i64 (lenB 5)] :=
 callDR_good row09_good (chkT_spec (chkT_room (m:=20) tab09_chk)) lib09_good (fuel:=1000) ((callFR_eq _ _ _ _ _ _ _).symm.trans (show callFR Tryz.prog row09 (getT (roomT 20 tab09)) lib09 1000 168 [.d (.int .u64 ((5:Nat):Int))]=some [.int .i64 (lenB 5)] by kernel_rfl))
theorem c168_6:CallDet Tryz.prog 168 [.d (.int .u64 ((6:Nat):Int))] [.int .i64 (lenB 6)] :=
 callDR_good row09_good (chkT_spec (chkT_room (m:=20) tab09_chk)) lib09_good (fuel:=1000) ((callFR_eq _ _ _ _ _ _ _).symm.trans (show callFR Tryz.prog row09 (getT (roomT 20 tab09)) lib09 1000 168 [.d (.int .u64 ((6:Nat):Int))]=some [.int .i64 (lenB 6)] by kernel_rfl))
theorem c168_7:CallDet Tryz.prog 168 [.d (.int .u64 ((7:Nat):Int))] [.int .i64 (lenB 7)] :=
 callDR_good row09_good (chkT_spec (chkT_room (m:=20) tab09_chk)) lib09_good (fuel:=1000) ((callFR_eq _ _ _ _ _ _ _).symm.trans (show callFR Tryz.prog row09 (getT (roomT 20 tab09)) lib09 1000 168 [.d (.int .u64 ((7:Nat):Int))]=some [.int .i64 (lenB 7)] by kernel_rfl))
theorem c168_8:CallDet Tryz.prog 168 [.d (.int .u64 ((8:Nat):Int))] [.int .i64 (lenB 8)] :=
 callDR_good row09_good (chkT_spec (chkT_room (m:=20) tab09_chk)) lib09_good (fuel:=1000) ((callFR_eq _ _ _ _ _ _ _).symm.trans (show callFR Tryz.prog row09 (getT (roomT 20 tab09)) lib09 1000 168 [.d (.int .u64 ((8:Nat):Int))]=some [.int .i64 (lenB 8)] by kernel_rfl))
theorem c168:∀ k:Nat,k≤8→CallDet Tryz.prog 168 [.d (.int .u64 (k:Int))] [.int .i64 (lenB k)]
 | 0,_=>c168_0
 | 1,_=>c168_1
 | 2,_=>c168_2
 | 3,_=>c168_3
 | 4,_=>c168_4
 | 5,_=>c168_5
 | 6,_=>c168_6
 | 7,_=>c168_7
 | 8,_=>c168_8
 | k+9,h=>absurd h (by omega)
theorem wrapU (k:Nat) (h:k≤8):IntKind.u64.wrap (k:Int)=(k:Int):=IntWalk.u64_in _ (by omega)
def jr194:AFun:=⟨17,0,[.tmp 4],
 (.seq
 (.reg [] [⟨some 4,.mov (.cst (.d (.bool false))),none⟩])
 (.seq
  (.reg [] [⟨some 5,.mov (.tmp 0),none⟩,
   ⟨some 6,.call 209 [(.tmp 5)],none⟩,
   ⟨some 7,.mov (.tmp 6),none⟩,
   ⟨some 8,.mov (.tmp 1),some (7,true)⟩,
   ⟨some 9,.call 209 [(.tmp 8)],some (7,true)⟩,
   ⟨some 10,.not (.tmp 9),some (7,true)⟩,
   ⟨some 11,.pick (.tmp 7) (.tmp 10) (.cst (.d (.bool false))),none⟩,
   ⟨some 12,.mov (.tmp 11),none⟩,
   ⟨some 13,.mov (.tmp 0),some (12,false)⟩,
   ⟨some 14,.mov (.tmp 1),some (12,false)⟩,
   ⟨some 15,.cmp .lss (.tmp 13) (.tmp 14),some (12,false)⟩,
   ⟨some 16,.pick (.tmp 12) (.cst (.d (.bool true))) (.tmp 15),none⟩,
   ⟨some 4,.mov (.tmp 16),none⟩])
  .ret))⟩
def jr188:AFun:=⟨49,0,[],
 (.seq
 (.reg [] [⟨some 8,.mov (.tmp 1),none⟩,
  ⟨some 9,.arith .add .i64 (.tmp 8) (.cst (.d (.int .i64 1))),none⟩,
  ⟨some 6,.mov (.tmp 9),none⟩])
 (.post [] []
  (.block 0
  (.keep [0,1,2,6] []
   (.loop
   (.post [0,1,2,6] []
    (.seq
    (.seq
     (.reg [] [⟨some 10,.mov (.tmp 6),none⟩,
      ⟨some 11,.mov (.tmp 2),none⟩,
      ⟨some 12,.cmp .lss (.tmp 10) (.tmp 11),none⟩])
     (.cond (.tmp 12)
     .skip
     (.exit 0)))
    (.seq
     (.block 1
     (.seq
      (.reg [] [⟨some 15,.mov (.tmp 6),none⟩,
       ⟨some 7,.mov (.tmp 15),none⟩])
      (.post [0,1,2,6] []
      (.block 2
       (.keep [0,1,2,6,7] []
       (.loop
        (.post [0,1,2,6,7] []
        (.seq
         (.seq
         (.regd [] [⟨some 16,.mov (.tmp 7),none⟩,
          ⟨some 17,.mov (.tmp 1),none⟩,
          ⟨some 18,.cmp .gtr (.tmp 16) (.tmp 17),none⟩,
          ⟨some 19,.mov (.tmp 18),none⟩,
          ⟨some 20,.mov (.tmp 0),some (19,true)⟩,
          ⟨some 21,.mov (.tmp 7),some (19,true)⟩,
          ⟨some 22,.ixa 1 (.tmp 20) (.tmp 21),some (19,true)⟩,
          ⟨some 23,.ld false 1 (.tmp 22),some (19,true)⟩,
          ⟨some 24,.mov (.tmp 0),some (19,true)⟩,
          ⟨some 25,.mov (.tmp 7),some (19,true)⟩,
          ⟨some 26,.arith .sub .i64 (.tmp 25) (.cst (.d (.int .i64 1))),some (19,true)⟩,
          ⟨some 27,.ixa 1 (.tmp 24) (.tmp 26),some (19,true)⟩,
          ⟨some 28,.ld false 1 (.tmp 27),some (19,true)⟩,
          ⟨some 29,.call 194 [(.tmp 23),(.tmp 28)],some (19,true)⟩,
          ⟨some 30,.pick (.tmp 19) (.tmp 29) (.cst (.d (.bool false))),none⟩] [(0,1),(4,5),(4,8),(5,8),(6,8),(7,8),(4,9),(5,9),(6,9),(7,9),(8,9),(4,10),(5,10),(6,10),(7,10),(8,10),(4,11),(5,11),(6,11),(7,11),(4,12),(5,12),(6,12),(7,12)])
         (.cond (.tmp 30)
          .skip
          (.exit 2)))
         (.seq
         (.block 3
          (.regd [] [⟨some 33,.mov (.tmp 0),none⟩,
           ⟨some 34,.mov (.tmp 7),none⟩,
           ⟨some 35,.mov (.tmp 0),none⟩,
           ⟨some 36,.mov (.tmp 7),none⟩,
           ⟨some 37,.arith .sub .i64 (.tmp 36) (.cst (.d (.int .i64 1))),none⟩,
           ⟨some 38,.mov (.tmp 0),none⟩,
           ⟨some 39,.mov (.tmp 7),none⟩,
           ⟨some 40,.arith .sub .i64 (.tmp 39) (.cst (.d (.int .i64 1))),none⟩,
           ⟨some 41,.ixa 1 (.tmp 38) (.tmp 40),none⟩,
           ⟨some 42,.ld false 1 (.tmp 41),none⟩,
           ⟨some 43,.mov (.tmp 0),none⟩,
           ⟨some 44,.mov (.tmp 7),none⟩,
           ⟨some 45,.ixa 1 (.tmp 43) (.tmp 44),none⟩,
           ⟨some 46,.ld false 1 (.tmp 45),none⟩,
           ⟨some 47,.ixa 1 (.tmp 33) (.tmp 34),none⟩,
           ⟨none,.st 1 (.tmp 47) (.tmp 42),none⟩,
           ⟨some 48,.ixa 1 (.tmp 35) (.tmp 37),none⟩,
           ⟨none,.st 1 (.tmp 48) (.tmp 46),none⟩] [(0,1),(0,2),(1,2),(0,3),(1,3),(2,3),(0,4),(1,4),(2,4),(0,5),(1,5),(2,5),(3,5),(4,5),(0,6),(1,6),(2,6),(3,6),(4,6),(5,6),(0,7),(1,7),(2,7),(3,7),(4,7),(5,7),(0,8),(1,8),(2,8),(3,8),(4,8),(0,9),(1,9),(2,9),(3,9),(4,9),(0,10),(1,10),(2,10),(3,10),(4,10),(5,10),(6,10),(7,10),(8,10),(9,10),(0,11),(1,11),(2,11),(3,11),(4,11),(5,11),(6,11),(7,11),(8,11),(9,11),(10,11),(0,12),(1,12),(2,12),(3,12),(4,12),(5,12),(6,12),(7,12),(8,12),(9,12),(0,13),(1,13),(2,13),(3,13),(4,13),(5,13),(6,13),(7,13),(8,13),(9,13),(2,14),(3,14),(4,14),(2,15),(3,15),(4,15)]))
         (.reg [] [⟨some 31,.mov (.tmp 7),none⟩,
          ⟨some 32,.arith .sub .i64 (.tmp 31) (.cst (.d (.int .i64 1))),none⟩,
          ⟨some 7,.mov (.tmp 32),none⟩]))))))))))
     (.reg [] [⟨some 13,.mov (.tmp 6),none⟩,
      ⟨some 14,.arith .add .i64 (.tmp 13) (.cst (.d (.int .i64 1))),none⟩,
      ⟨some 6,.mov (.tmp 14),none⟩])))))))))⟩
def jr167:AFun:=⟨134,0,[],
 (.seq
 (.reg [] [⟨some 8,.mov (.cst (.d (.bool true))),none⟩])
 (.seq
  (.reg [] [⟨some 9,.mov (.cst (.d (.bool true))),none⟩])
  (.post [] []
  (.block 0
   (.keep [0,1,2,3,8,9] []
   (.loop
    (.post [0,1,2,3,8,9] []
    (.block 1
     (.seq
     (.reg [] [⟨some 19,.mov (.tmp 2),none⟩,
      ⟨some 20,.mov (.tmp 1),none⟩,
      ⟨some 21,.arith .sub .i64 (.tmp 19) (.tmp 20),none⟩,
      ⟨some 10,.mov (.tmp 21),none⟩])
     (.seq
      (.seq
      (.reg [] [⟨some 22,.mov (.tmp 10),none⟩,
       ⟨some 23,.cmp .leq (.tmp 22) (.cst (.d (.int .i64 12))),none⟩])
      (.cond (.tmp 23)
       (.seq
       (.reg [] [⟨some 24,.mov (.tmp 0),none⟩,
        ⟨some 25,.mov (.tmp 1),none⟩,
        ⟨some 26,.mov (.tmp 2),none⟩,
        ⟨some 27,.calli 188 [(.tmp 24),(.tmp 25),(.tmp 26)],none⟩])
       .ret)
       .skip))
      (.seq
      (.seq
       (.reg [] [⟨some 28,.mov (.tmp 3),none⟩,
        ⟨some 29,.cmp .eql (.tmp 28) (.cst (.d (.int .i64 0))),none⟩])
       (.cond (.tmp 29)
       (.seq
        (.reg [] [⟨some 30,.mov (.tmp 0),none⟩,
         ⟨some 31,.mov (.tmp 1),none⟩,
         ⟨some 32,.mov (.tmp 2),none⟩,
         ⟨some 33,.call 189 [(.tmp 30),(.tmp 31),(.tmp 32)],none⟩])
        .ret)
       .skip))
      (.seq
       (.seq
       (.reg [] [⟨some 34,.mov (.tmp 8),none⟩,
        ⟨some 35,.not (.tmp 34),none⟩])
       (.cond (.tmp 35)
        (.seq
        (.reg [] [⟨some 36,.mov (.tmp 0),none⟩,
         ⟨some 37,.mov (.tmp 1),none⟩,
         ⟨some 38,.mov (.tmp 2),none⟩,
         ⟨some 39,.call 190 [(.tmp 36),(.tmp 37),(.tmp 38)],none⟩])
        (.reg [] [⟨some 40,.mov (.tmp 3),none⟩,
         ⟨some 41,.arith .sub .i64 (.tmp 40) (.cst (.d (.int .i64 1))),none⟩,
         ⟨some 3,.mov (.tmp 41),none⟩]))
        .skip))
       (.seq
       (.reg [] [⟨some 43,.mov (.tmp 0),none⟩,
        ⟨some 44,.mov (.tmp 1),none⟩,
        ⟨some 45,.mov (.tmp 2),none⟩,
        ⟨some 46,.call 191 [(.tmp 43),(.tmp 44),(.tmp 45)],none⟩,
        ⟨some 42,.mov (.tmp 46),none⟩,
        ⟨some 47,.ext 0 (.tmp 42),none⟩,
        ⟨some 48,.ext 1 (.tmp 42),none⟩,
        ⟨some 11,.mov (.tmp 47),none⟩,
        ⟨some 12,.mov (.tmp 48),none⟩])
       (.seq
        (.seq
        (.reg [] [⟨some 49,.mov (.tmp 12),none⟩,
         ⟨some 50,.cmp .eql (.tmp 49) (.cst (.d (.int .i64 2))),none⟩])
        (.cond (.tmp 50)
         (.seq
         (.reg [] [⟨some 51,.mov (.tmp 0),none⟩,
          ⟨some 52,.mov (.tmp 1),none⟩,
          ⟨some 53,.mov (.tmp 2),none⟩,
          ⟨some 54,.call 192 [(.tmp 51),(.tmp 52),(.tmp 53)],none⟩])
         (.seq
          (.reg [] [⟨some 55,.mov (.tmp 2),none⟩,
           ⟨some 56,.arith .sub .i64 (.tmp 55) (.cst (.d (.int .i64 1))),none⟩,
           ⟨some 57,.mov (.tmp 11),none⟩,
           ⟨some 58,.mov (.tmp 1),none⟩,
           ⟨some 59,.arith .sub .i64 (.tmp 57) (.tmp 58),none⟩,
           ⟨some 60,.arith .sub .i64 (.tmp 56) (.tmp 59),none⟩,
           ⟨some 11,.mov (.tmp 60),none⟩])
          (.reg [] [⟨some 12,.mov (.cst (.d (.int .i64 1))),none⟩])))
         .skip))
        (.seq
        (.seq
         (.reg [] [⟨some 61,.mov (.tmp 8),none⟩,
          ⟨some 62,.mov (.tmp 61),none⟩,
          ⟨some 63,.mov (.tmp 9),some (62,true)⟩,
          ⟨some 64,.pick (.tmp 62) (.tmp 63) (.cst (.d (.bool false))),none⟩,
          ⟨some 65,.mov (.tmp 64),none⟩,
          ⟨some 66,.mov (.tmp 12),some (65,true)⟩,
          ⟨some 67,.cmp .eql (.tmp 66) (.cst (.d (.int .i64 1))),some (65,true)⟩,
          ⟨some 68,.pick (.tmp 65) (.tmp 67) (.cst (.d (.bool false))),none⟩])
         (.cond (.tmp 68)
         (.seq
          (.reg [] [⟨some 69,.mov (.tmp 0),none⟩,
           ⟨some 70,.mov (.tmp 1),none⟩,
           ⟨some 71,.mov (.tmp 2),none⟩,
           ⟨some 72,.call 193 [(.tmp 69),(.tmp 70),(.tmp 71)],none⟩])
          (.cond (.tmp 72)
          .ret
          .skip))
         .skip))
        (.seq
         (.seq
         (.regd [] [⟨some 73,.mov (.tmp 1),none⟩,
          ⟨some 74,.cmp .gtr (.tmp 73) (.cst (.d (.int .i64 0))),none⟩,
          ⟨some 75,.mov (.tmp 74),none⟩,
          ⟨some 76,.mov (.tmp 0),some (75,true)⟩,
          ⟨some 77,.mov (.tmp 1),some (75,true)⟩,
          ⟨some 78,.arith .sub .i64 (.tmp 77) (.cst (.d (.int .i64 1))),some (75,true)⟩,
          ⟨some 79,.ixa 1 (.tmp 76) (.tmp 78),some (75,true)⟩,
          ⟨some 80,.ld false 1 (.tmp 79),some (75,true)⟩,
          ⟨some 81,.mov (.tmp 0),some (75,true)⟩,
          ⟨some 82,.mov (.tmp 11),some (75,true)⟩,
          ⟨some 83,.ixa 1 (.tmp 81) (.tmp 82),some (75,true)⟩,
          ⟨some 84,.ld false 1 (.tmp 83),some (75,true)⟩,
          ⟨some 85,.call 194 [(.tmp 80),(.tmp 84)],some (75,true)⟩,
          ⟨some 86,.not (.tmp 85),some (75,true)⟩,
          ⟨some 87,.pick (.tmp 75) (.tmp 86) (.cst (.d (.bool false))),none⟩] [(3,4),(3,5),(3,8),(4,8),(5,8),(6,8),(7,8),(3,9),(4,9),(5,9),(6,9),(7,9),(8,9),(3,10),(4,10),(5,10),(6,10),(7,10),(3,11),(4,11),(5,11),(6,11),(7,11)])
         (.cond (.tmp 87)
          (.seq
          (.reg [] [⟨some 88,.mov (.tmp 0),none⟩,
           ⟨some 89,.mov (.tmp 1),none⟩,
           ⟨some 90,.mov (.tmp 2),none⟩,
           ⟨some 91,.mov (.tmp 11),none⟩,
           ⟨some 92,.call 195 [(.tmp 88),(.tmp 89),(.tmp 90),(.tmp 91)],none⟩,
           ⟨some 13,.mov (.tmp 92),none⟩])
          (.seq
           (.reg [] [⟨some 93,.mov (.tmp 13),none⟩,
            ⟨some 1,.mov (.tmp 93),none⟩])
           (.exit 1)))
          .skip))
         (.seq
         (.reg [] [⟨some 95,.mov (.tmp 0),none⟩,
          ⟨some 96,.mov (.tmp 1),none⟩,
          ⟨some 97,.mov (.tmp 2),none⟩,
          ⟨some 98,.mov (.tmp 11),none⟩,
          ⟨some 99,.call 196 [(.tmp 95),(.tmp 96),(.tmp 97),(.tmp 98)],none⟩,
          ⟨some 94,.mov (.tmp 99),none⟩,
          ⟨some 100,.ext 0 (.tmp 94),none⟩,
          ⟨some 101,.ext 1 (.tmp 94),none⟩,
          ⟨some 14,.mov (.tmp 100),none⟩,
          ⟨some 15,.mov (.tmp 101),none⟩])
         (.seq
          (.reg [] [⟨some 102,.mov (.tmp 15),none⟩,
           ⟨some 9,.mov (.tmp 102),none⟩])
          (.seq
          (.reg [] [⟨some 103,.mov (.tmp 14),none⟩,
           ⟨some 104,.mov (.tmp 1),none⟩,
           ⟨some 105,.arith .sub .i64 (.tmp 103) (.tmp 104),none⟩,
           ⟨some 106,.mov (.tmp 2),none⟩,
           ⟨some 107,.mov (.tmp 14),none⟩,
           ⟨some 108,.arith .sub .i64 (.tmp 106) (.tmp 107),none⟩,
           ⟨some 16,.mov (.tmp 105),none⟩,
           ⟨some 17,.mov (.tmp 108),none⟩])
          (.seq
           (.reg [] [⟨some 109,.mov (.tmp 10),none⟩,
            ⟨some 110,.arith .quo .i64 (.tmp 109) (.cst (.d (.int .i64 8))),none⟩,
            ⟨some 18,.mov (.tmp 110),none⟩])
           (.seq
           (.reg [] [⟨some 111,.mov (.tmp 16),none⟩,
            ⟨some 112,.mov (.tmp 17),none⟩,
            ⟨some 113,.cmp .lss (.tmp 111) (.tmp 112),none⟩])
           (.cond (.tmp 113)
            (.seq
            (.reg [] [⟨some 114,.mov (.tmp 16),none⟩,
             ⟨some 115,.mov (.tmp 18),none⟩,
             ⟨some 116,.cmp .geq (.tmp 114) (.tmp 115),none⟩,
             ⟨some 8,.mov (.tmp 116),none⟩])
            (.seq
             (.reg [] [⟨some 117,.mov (.tmp 0),none⟩,
              ⟨some 118,.mov (.tmp 1),none⟩,
              ⟨some 119,.mov (.tmp 14),none⟩,
              ⟨some 120,.mov (.tmp 3),none⟩,
              ⟨some 121,.call 167 [(.tmp 117),(.tmp 118),(.tmp 119),(.tmp 120)],none⟩])
             (.reg [] [⟨some 122,.mov (.tmp 14),none⟩,
              ⟨some 123,.arith .add .i64 (.tmp 122) (.cst (.d (.int .i64 1))),none⟩,
              ⟨some 1,.mov (.tmp 123),none⟩])))
            (.seq
            (.reg [] [⟨some 124,.mov (.tmp 17),none⟩,
             ⟨some 125,.mov (.tmp 18),none⟩,
             ⟨some 126,.cmp .geq (.tmp 124) (.tmp 125),none⟩,
             ⟨some 8,.mov (.tmp 126),none⟩])
            (.seq
             (.reg [] [⟨some 127,.mov (.tmp 0),none⟩,
              ⟨some 128,.mov (.tmp 14),none⟩,
              ⟨some 129,.arith .add .i64 (.tmp 128) (.cst (.d (.int .i64 1))),none⟩,
              ⟨some 130,.mov (.tmp 2),none⟩,
              ⟨some 131,.mov (.tmp 3),none⟩,
              ⟨some 132,.call 167 [(.tmp 127),(.tmp 129),(.tmp 130),(.tmp 131)],none⟩])
             (.reg [] [⟨some 133,.mov (.tmp 14),none⟩,
              ⟨some 2,.mov (.tmp 133),none⟩])))))))))))))))))))))))))⟩
def jr119:AFun:=⟨11,0,[],
 (.seq
 (.reg [] [⟨some 3,.mov (.tmp 0),none⟩,
  ⟨some 4,.len (.tmp 3),none⟩,
  ⟨some 2,.mov (.tmp 4),none⟩])
 (.reg [] [⟨some 5,.mov (.tmp 0),none⟩,
  ⟨some 6,.mov (.tmp 2),none⟩,
  ⟨some 7,.mov (.tmp 2),none⟩,
  ⟨some 8,.conv .u64 (.tmp 7),none⟩,
  ⟨some 9,.call 168 [(.tmp 8)],none⟩,
  ⟨some 10,.calli 167 [(.tmp 5),(.cst (.d (.int .i64 0))),(.tmp 6),(.tmp 9)],none⟩]))⟩
theorem c194 (a b:Int):CallDet Tryz.prog 194 [.d (.int .i64 a),.d (.int .i64 b)] [.bool (decide (a < b))]:=by
 refine call_of_vc (x:=jr194) (by kernel_rfl) rfl ?_
 refine ca (c209 _) ?_
 refine sd ?_
 refine sd ?_
 exact rfl
theorem i188 (R:List Int) (hd:R.Nodup) (N:Nat) (hN:N=R.length) (h8:R.length≤1048576) (A:List Data) (cs:List AVal):CallIn Tryz.prog 188 [.sl 9 N,.d (.int .i64 0),.d (.int .i64 (N:Int))] [.none,.none,.none,.none,.none,.none,.row 226 4 A false,.box cs,.none,.row 3 1 (ints R) false] (.tup []) (setAll [.none,.none,.none,.none,.none,.none,.row 226 4 A false,.box cs,.none,.row 3 1 (ints R) false] [(9,.row 3 1 (ints (isortI [] R)) false)]):=by
 have hlR:(ints R).length=R.length:=List.length_map _
 refine callIn_of_vc 10 (x:=jr188) (by kernel_rfl) rfl rfl rfl ?_
 refine ar_add ?_ ?_
 refine an ?_ ?_
 (show (-9223372036854775808:Int)≤(0:Int)+(1:Int); omega)
 (show (0:Int)+(1:Int)≤(9223372036854775807:Int); omega)
 rotate_left
 refine loop_st (fun k:Nat=>⟨[(0,.sl 9 N),(1,.d (.int .i64 0)),(2,.d (.int .i64 (N:Int))),(6,.d (.int .i64 ((k:Int)+1)))],[.none,.none,.none,.none,.none,.none,.row 226 4 A false,.box cs,.none,.row 3 1 (ints (isortI [] (R.take (k+1))++R.drop (k+1))) false]⟩) (fun k=>k=0∨k+1≤R.length) (fun k=>R.length - k) 0 (by rw [show isortI [] (R.take 1)++R.drop 1=R by cases R <;> rfl]; rfl) (.inl rfl) ?_
 intro k hk
 dsimp only
 by_cases hkn:k+1 < R.length
 ·refine Exists.elim (get_lt R hkn) fun x hx=>?_
  have hP:=isortI_up (R.take (k+1)) [] trivial (by rw [List.nil_append]; exact List.Nodup.sublist (List.take_sublist _ _) hd)
  have hPl:(isortI [] (R.take (k+1))).length=k+1:=by rw [(isortI_perm _ _).length_eq,List.nil_append,List.length_take]; omega
  have hs:isortI [] (R.take (k+1+1))=ioins x (isortI [] (R.take (k+1))):=by rw [take_one hx,isortI_snoc]
  rw [drop_at hx]
  have fin:∀ L:List Int,L=isortI [] (R.take (k+1+1))→∃ a':Nat,((a'=0∨a'+1≤R.length)∧R.length - a' < R.length - k)∧(⟨[(0,.sl 9 N),(1,.d (.int .i64 0)),(2,.d (.int .i64 (N:Int))),(6,.d (.int .i64 ((k:Int)+1+1)))],[.none,.none,.none,.none,.none,.none,.row 226 4 A false,.box cs,.none,.row 3 1 (ints (L++R.drop (k+1+1))) false]⟩:St)=⟨[(0,.sl 9 N),(1,.d (.int .i64 0)),(2,.d (.int .i64 (N:Int))),(6,.d (.int .i64 ((a':Int)+1)))],[.none,.none,.none,.none,.none,.none,.row 226 4 A false,.box cs,.none,.row 3 1 (ints (isortI [] (R.take (a'+1))++R.drop (a'+1))) false]⟩:=fun L e =>
   ⟨k+1,⟨.inr (by omega),by omega⟩,by rw [e]; rfl⟩
  rw [hs] at fin
  have hlt:(isortI [] (R.take (k+1))++x::R.drop (k+1+1)).length=R.length:=by rw [List.length_append,hPl,List.length_cons,List.length_drop]; omega
  generalize isortI [] (R.take (k+1))=P at *
  generalize R.drop (k+1+1)=T at *
  refine sd ?_
  refine b_lt (fun t1=>?_) (fun t1=>?_)
  rotate_left
  (exfalso; omega)
  refine loop_st (fun q:List Int × List Int=>⟨[(0,.sl 9 N),(1,.d (.int .i64 0)),(2,.d (.int .i64 (N:Int))),(6,.d (.int .i64 ((k:Int)+1))),(7,.d (.int .i64 (((q.1.length:Nat):Int))))],[.none,.none,.none,.none,.none,.none,.row 226 4 A false,.box cs,.none,.row 3 1 (ints (q.1++x::(q.2++T))) false]⟩) (fun q=>q.1++q.2=P∧∀ y∈q.2,x < y) (fun q=>q.1.length) (P,[]) (by rw [hPl]; rfl) ⟨List.append_nil _,fun y hy=>by cases hy⟩ ?_
  rintro ⟨A0,B⟩ ⟨hAB,hB⟩
  have hAB:A0++B=P:=hAB
  dsimp only
  rcases List.eq_nil_or_concat A0 with rfl | ⟨A1,z,hA⟩
  ·have e:ioins x P=x::B:=by rw [← hAB]; exact ioins_right (a:=[]) (by rw [hAB]; exact hP) hB (fun y hy=>by cases hy)
   have fin:=fin (x::B) e.symm
   refine sd ?_
   refine sd ?_
   refine ar_add ?_ ?_
   refine an ?_ ?_
   (show (-9223372036854775808:Int)≤(↑k:Int)+(1:Int)+(1:Int); omega)
   (show (↑k:Int)+(1:Int)+(1:Int)≤(9223372036854775807:Int); omega)
   rotate_left
   all_goals exact fin
  ·rw [List.concat_eq_append] at hA
   subst hA
   have hJ:(A1++[z]).length=A1.length+1:=by rw [List.length_append]; rfl
   have e0:(A1++[z])++x::(B++T)=A1++z::x::(B++T):=by rw [List.append_assoc]; rfl
   have g1:(A1++z::x::(B++T))[A1.length+1]?=some x:=by rw [List.getElem?_append_right (by omega),show A1.length+1 - A1.length=1 by omega]; rfl
   have g2:(A1++z::x::(B++T))[A1.length]?=some z:=by rw [List.getElem?_append_right (by omega),Nat.sub_self]; rfl
   have hrl:(ints (A1++z::x::(B++T))).length=R.length:=by rw [show (ints (A1++z::x::(B++T))).length=_ from List.length_map _,← hlt,← hAB]; simp only [List.length_append,List.length_cons,List.length_nil]; omega
   have hA1:A1.length+1 < R.length:=by
    have:=hrl
    rw [show (ints (A1++z::x::(B++T))).length=_ from List.length_map _] at this
    simp only [List.length_append,List.length_cons] at this
    omega
   rw [e0,hJ]
   have h1:=ints_get g1
   have h2:(ints (A1++z::x::(B++T)))[(((A1.length+1:Nat):Int) - 1).toNat]?=some (.int .i64 z):=by
    rw [show (((A1.length+1:Nat):Int) - 1).toNat=A1.length by omega]; exact ints_get g2
   have h3:((ints (A1++z::x::(B++T))).set (A1.length+1) (.int .i64 z))[(((A1.length+1:Nat):Int) - 1).toNat]?=some (.int .i64 z):=by
    rw [List.getElem?_set_ne (by omega)]; exact h2
   have h4:(((ints (A1++z::x::(B++T))).set (A1.length+1) (.int .i64 z)).set ((((A1.length+1:Nat):Int) - 1).toNat) (.int .i64 x))=ints (A1++x::(z::B++T)):=by
    rw [show (((A1.length+1:Nat):Int) - 1).toNat=A1.length by omega]
    show (((A1++z::x::(B++T)).map (Data.int .i64)).set (A1.length+1) (Data.int .i64 z)).set A1.length (Data.int .i64 x)=(A1++x::(z::B++T)).map (Data.int .i64)
    rw [← List.map_set,← List.map_set,List.set_append_right _ _ (by omega),show A1.length+1 - A1.length=1 by omega,List.set_append_right _ _ (by omega),Nat.sub_self]; rfl
   have c194_:=c194 x z
   have sw:x < z→∃ a':List Int × List Int,((a'.1++a'.2=P∧∀ y∈a'.2,x < y)∧a'.1.length < A1.length+1)∧(⟨[(0,.sl 9 N),(1,.d (.int .i64 0)),(2,.d (.int .i64 (N:Int))),(6,.d (.int .i64 ((k:Int)+1))),(7,.d (.int .i64 (((A1.length+1:Nat):Int) - 1)))],[.none,.none,.none,.none,.none,.none,.row 226 4 A false,.box cs,.none,.row 3 1 (ints (A1++x::(z::B++T))) false]⟩:St)=⟨[(0,.sl 9 N),(1,.d (.int .i64 0)),(2,.d (.int .i64 (N:Int))),(6,.d (.int .i64 ((k:Int)+1))),(7,.d (.int .i64 (((a'.1.length:Nat):Int))))],[.none,.none,.none,.none,.none,.none,.row 226 4 A false,.box cs,.none,.row 3 1 (ints (a'.1++x::(a'.2++T))) false]⟩:=fun e =>
    ⟨(A1,z::B),⟨⟨by rw [← hAB,List.append_assoc]; rfl,fun y hy=>by rcases List.mem_cons.1 hy with rfl | hy; exact e; exact hB y hy⟩,Nat.lt_succ_self _⟩,by rw [show ((A1.length+1:Nat):Int) - 1=(A1.length:Int) by omega]⟩
   have ex:¬ x < z→ioins x P=(A1++[z])++x::B:=fun e=>by
    rw [← hAB]
    refine ioins_right (by rw [hAB]; exact hP) hB fun w hw=>?_
    rw [List.getLast?_append,List.getLast?_singleton] at hw
    cases hw
    exact e
   rw [← h4] at sw
   refine sd ?_
   refine b_lt (fun t2=>?_) (fun t2=>?_)
   refine an ?_ ?_
   refine an ?_ ?_
   exact rfl
   refine an ?_ ?_
   (show List.length (ints (A1++z::x::(B++T)))=N; omega)
   refine an ?_ ?_
   (show (0:Int)≤(↑(List.length A1+(1:Nat)):Int); omega)
   (show (↑(List.length A1+(1:Nat)):Int) < (↑N:Int); omega)
   refine an ?_ ?_
   (show List.length (ints (A1++z::x::(B++T)))=N; omega)
   refine ca h1 ?_
   refine ar_sub ?_ ?_
   refine an ?_ ?_
   (show (-9223372036854775808:Int)≤(↑(List.length A1+(1:Nat)):Int) - (1:Int); omega)
   (show (↑(List.length A1+(1:Nat)):Int) - (1:Int)≤(9223372036854775807:Int); omega)
   refine an ?_ ?_
   refine an ?_ ?_
   exact rfl
   refine an ?_ ?_
   (show List.length (ints (A1++z::x::(B++T)))=N; omega)
   refine an ?_ ?_
   (show (0:Int)≤(↑(List.length A1+(1:Nat)):Int) - (1:Int); omega)
   (show (↑(List.length A1+(1:Nat)):Int) - (1:Int) < (↑N:Int); omega)
   refine an ?_ ?_
   (show List.length (ints (A1++z::x::(B++T)))=N; omega)
   refine ca h2 ?_
   refine ca c194_ ?_
   refine b_lt (fun t3=>?_) (fun t3=>?_)
   refine ar_sub ?_ ?_
   refine an ?_ ?_
   (show (-9223372036854775808:Int)≤(↑(List.length A1+(1:Nat)):Int) - (1:Int); omega)
   (show (↑(List.length A1+(1:Nat)):Int) - (1:Int)≤(9223372036854775807:Int); omega)
   refine ar_sub ?_ ?_
   refine an ?_ ?_
   (show (-9223372036854775808:Int)≤(↑(List.length A1+(1:Nat)):Int) - (1:Int); omega)
   (show (↑(List.length A1+(1:Nat)):Int) - (1:Int)≤(9223372036854775807:Int); omega)
   refine an ?_ ?_
   refine an ?_ ?_
   exact rfl
   refine an ?_ ?_
   (show List.length (ints (A1++z::x::(B++T)))=N; omega)
   refine an ?_ ?_
   (show (0:Int)≤(↑(List.length A1+(1:Nat)):Int) - (1:Int); omega)
   (show (↑(List.length A1+(1:Nat)):Int) - (1:Int) < (↑N:Int); omega)
   refine an ?_ ?_
   (show List.length (ints (A1++z::x::(B++T)))=N; omega)
   refine ca h2 ?_
   refine an ?_ ?_
   refine an ?_ ?_
   exact rfl
   refine an ?_ ?_
   (show List.length (ints (A1++z::x::(B++T)))=N; omega)
   refine an ?_ ?_
   (show (0:Int)≤(↑(List.length A1+(1:Nat)):Int); omega)
   (show (↑(List.length A1+(1:Nat)):Int) < (↑N:Int); omega)
   refine an ?_ ?_
   (show List.length (ints (A1++z::x::(B++T)))=N; omega)
   refine ca h1 ?_
   refine an ?_ ?_
   refine an ?_ ?_
   exact rfl
   refine an ?_ ?_
   (show List.length (ints (A1++z::x::(B++T)))=N; omega)
   refine an ?_ ?_
   (show (0:Int)≤(↑(List.length A1+(1:Nat)):Int); omega)
   (show (↑(List.length A1+(1:Nat)):Int) < (↑N:Int); omega)
   refine Exists.intro _ (Exists.intro (Data.int IntKind.i64 z) (And.intro (And.intro ?_ (And.intro h1 (And.intro rfl (And.intro ?_ (And.intro rfl rfl))))) ?_))
   (show List.length (ints (A1++z::x::(B++T)))=N; omega)
   (show (0:Nat)+(1:Nat)≤(1:Nat); omega)
   refine an ?_ ?_
   refine an ?_ ?_
   exact rfl
   refine an ?_ ?_
   (show List.length (List.set (ints (A1++z::x::(B++T))) (List.length A1+(1:Nat)) (Data.int IntKind.i64 z))=N; simp only [List.length_replicate,List.length_set,List.length_append,List.length_take,List.length_drop]; omega)
   refine an ?_ ?_
   (show (0:Int)≤(↑(List.length A1+(1:Nat)):Int) - (1:Int); omega)
   (show (↑(List.length A1+(1:Nat)):Int) - (1:Int) < (↑N:Int); omega)
   refine Exists.intro _ (Exists.intro (Data.int IntKind.i64 x) (And.intro (And.intro ?_ (And.intro h3 (And.intro rfl (And.intro ?_ (And.intro rfl rfl))))) ?_))
   (show List.length (List.set (ints (A1++z::x::(B++T))) (List.length A1+(1:Nat)) (Data.int IntKind.i64 z))=N; simp only [List.length_replicate,List.length_set,List.length_append,List.length_take,List.length_drop]; omega)
   (show (0:Nat)+(1:Nat)≤(1:Nat); omega)
   refine ar_sub ?_ ?_
   refine an ?_ ?_
   (show (-9223372036854775808:Int)≤(↑(List.length A1+(1:Nat)):Int) - (1:Int); omega)
   (show (↑(List.length A1+(1:Nat)):Int) - (1:Int)≤(9223372036854775807:Int); omega)
   rotate_left
   refine ar_add ?_ ?_
   refine an ?_ ?_
   (show (-9223372036854775808:Int)≤(↑k:Int)+(1:Int)+(1:Int); omega)
   (show (↑k:Int)+(1:Int)+(1:Int)≤(9223372036854775807:Int); omega)
   rotate_left
   (exfalso; omega)
   ·exact sw t3
   ·have fin:=fin ((A1++[z])++x::B) (ex t3).symm
    rw [show ((A1++[z])++x::B)++T=A1++z::x::(B++T) by simp] at fin
    exact fin
 ·refine sd ?_
  refine b_lt (fun t1=>?_) (fun t1=>?_)
  (exfalso; omega)
  refine sd ?_
  rotate_left
  refine congrArg (fun L=>([.none,.none,.none,.none,.none,.none,.row 226 4 A false,.box cs,.none,.row 3 1 (ints L) false]:List AObj)) ?_
  rw [List.drop_eq_nil_of_le (by omega),List.append_nil,List.take_of_length_le (by omega)]
theorem i188z (A:List Data) (cs:List AVal):CallIn Tryz.prog 188 [.nils 1,.d (.int .i64 0),.d (.int .i64 0)] [.none,.none,.none,.none,.none,.none,.row 226 4 A false,.box cs,.none,.none] (.tup []) (setAll [.none,.none,.none,.none,.none,.none,.row 226 4 A false,.box cs,.none,.none] []):=by
 refine callIn_of_vc 10 (x:=jr188) (by kernel_rfl) rfl rfl rfl ?_
 refine ar_add ?_ ?_
 refine an ?_ ?_
 (show (-9223372036854775808:Int)≤(0:Int)+(1:Int); omega)
 (show (0:Int)+(1:Int)≤(9223372036854775807:Int); omega)
 rotate_left
 refine loop_st (fun k:Nat=>⟨[(0,.nils 1),(1,.d (.int .i64 0)),(2,.d (.int .i64 0)),(6,.d (.int .i64 1))],[.none,.none,.none,.none,.none,.none,.row 226 4 A false,.box cs,.none,.none]⟩) (fun k=>True) (fun k=>0) 0 rfl trivial ?_
 intro k _
 dsimp only
 refine sd ?_
 refine sd ?_
 exact rfl
theorem i167 (R:List Int) (hd:R.Nodup) (h8:R.length≤8) (N:Nat) (hN:N=R.length) (lim:Int) (A:List Data) (cs:List AVal):CallIn Tryz.prog 167 [.sl 9 N,.d (.int .i64 0),.d (.int .i64 (N:Int)),.d (.int .i64 lim)] [.none,.none,.none,.none,.none,.none,.row 226 4 A false,.box cs,.none,.row 3 1 (ints R) false] (.tup []) (setAll [.none,.none,.none,.none,.none,.none,.row 226 4 A false,.box cs,.none,.row 3 1 (ints R) false] [(9,.row 3 1 (ints (isortI [] R)) false)]):=by
 have c188i_:=i188 R hd N hN (by omega) A cs
 refine callIn_of_vc 10 (x:=jr167) (by kernel_rfl) rfl rfl rfl ?_
 refine loop_st (fun k:Nat=>⟨[(0,.sl 9 N),(1,.d (.int .i64 0)),(2,.d (.int .i64 (N:Int))),(3,.d (.int .i64 lim)),(8,.d (.bool true)),(9,.d (.bool true))],[.none,.none,.none,.none,.none,.none,.row 226 4 A false,.box cs,.none,.row 3 1 (ints R) false]⟩) (fun _=>True) (fun k=>k) 0 rfl trivial ?_
 intro k _
 dsimp only
 refine ar_sub ?_ ?_
 refine an ?_ ?_
 (show (-9223372036854775808:Int)≤(↑N:Int) - (0:Int); omega)
 (show (↑N:Int) - (0:Int)≤(9223372036854775807:Int); omega)
 refine sd ?_
 refine b_le (fun t1=>?_) (fun t1=>?_)
 refine Exists.intro _ (Exists.intro _ (And.intro (c188i_) ?_))
 refine sd ?_
 exact rfl
 (exfalso; omega)
theorem i167z (lim:Int) (A:List Data) (cs:List AVal):CallIn Tryz.prog 167 [.nils 1,.d (.int .i64 0),.d (.int .i64 0),.d (.int .i64 lim)] [.none,.none,.none,.none,.none,.none,.row 226 4 A false,.box cs,.none,.none] (.tup []) (setAll [.none,.none,.none,.none,.none,.none,.row 226 4 A false,.box cs,.none,.none] []):=by
 have c188i_:=i188z A cs
 refine callIn_of_vc 10 (x:=jr167) (by kernel_rfl) rfl rfl rfl ?_
 refine loop_st (fun k:Nat=>⟨[(0,.nils 1),(1,.d (.int .i64 0)),(2,.d (.int .i64 0)),(3,.d (.int .i64 lim)),(8,.d (.bool true)),(9,.d (.bool true))],[.none,.none,.none,.none,.none,.none,.row 226 4 A false,.box cs,.none,.none]⟩) (fun _=>True) (fun k=>k) 0 rfl trivial ?_
 intro k _
 dsimp only
 refine ar_sub ?_ ?_
 refine an ?_ ?_
 (show (-9223372036854775808:Int)≤(0:Int) - (0:Int); omega)
 (show (0:Int) - (0:Int)≤(9223372036854775807:Int); omega)
 refine sd ?_
 refine Exists.intro _ (Exists.intro _ (And.intro (c188i_) ?_))
 refine sd ?_
 exact rfl
theorem i119 (R:List Int) (hd:R.Nodup) (h8:R.length≤8) (N:Nat) (hN:N=R.length) (A:List Data) (cs:List AVal):CallIn Tryz.prog 119 [.sl 9 N] [.none,.none,.none,.none,.none,.none,.row 226 4 A false,.box cs,.none,.row 3 1 (ints R) false] (.tup []) (setAll [.none,.none,.none,.none,.none,.none,.row 226 4 A false,.box cs,.none,.row 3 1 (ints R) false] [(9,.row 3 1 (ints (isortI [] R)) false)]):=by
 have hlR:(ints R).length=N:=by rw [hN]; exact List.length_map _
 have c168_:CallDet Tryz.prog 168 [.d (.int .u64 (IntKind.u64.wrap (((ints R).length:Nat):Int)))] [.int .i64 (lenB N)]:=by rw [hlR,wrapU N (by omega)]; exact c168 N (by omega)
 have c167i_:CallIn Tryz.prog 167 [.sl 9 N,.d (.int .i64 0),.d (.int .i64 (((ints R).length:Nat):Int)),.d (.int .i64 (lenB N))] [.none,.none,.none,.none,.none,.none,.row 226 4 A false,.box cs,.none,.row 3 1 (ints R) false] (.tup []) (setAll [.none,.none,.none,.none,.none,.none,.row 226 4 A false,.box cs,.none,.row 3 1 (ints R) false] [(9,.row 3 1 (ints (isortI [] R)) false)]):=by rw [hlR]; exact i167 R hd h8 N hN (lenB N) A cs
 refine callIn_of_vc 10 (x:=jr119) (by kernel_rfl) rfl rfl rfl ?_
 refine an ?_ ?_
 assumption
 refine ca rfl ?_
 refine ca (c168_) ?_
 refine Exists.intro _ (Exists.intro _ (And.intro (c167i_) ?_))
 refine sd ?_
 exact rfl
theorem i119z (A:List Data) (cs:List AVal):CallIn Tryz.prog 119 [.nils 1] [.none,.none,.none,.none,.none,.none,.row 226 4 A false,.box cs,.none,.none] (.tup []) (setAll [.none,.none,.none,.none,.none,.none,.row 226 4 A false,.box cs,.none,.none] []):=by
 have c168_:CallDet Tryz.prog 168 [.d (.int .u64 (IntKind.u64.wrap (0:Int)))] [.int .i64 (lenB 0)]:=by rw [show IntKind.u64.wrap (0:Int)=((0:Nat):Int) from wrapU 0 (by omega)]; exact c168 0 (by omega)
 have c167i_:=i167z (lenB 0) A cs
 refine callIn_of_vc 10 (x:=jr119) (by kernel_rfl) rfl rfl rfl ?_
 refine ca rfl ?_
 refine ca (c168_) ?_
 refine Exists.intro _ (Exists.intro _ (And.intro (c167i_) ?_))
 refine sd ?_
 exact rfl
theorem i153 (R:List Rn) (hd:Dst R) (h8:R.length≤8) (N:Nat) (hN:N=R.length) (cs:List AVal):CallIn Tryz.prog 153 [.sl 6 N,.d (.fn (.func 154) [])] [.none,.none,.none,.none,.none,.none,.row 226 4 (rns R) false,.box cs,.none,.none] (.tup []) (setAll [.none,.none,.none,.none,.none,.none,.row 226 4 (rns R) false,.box cs,.none,.none] [(6,.row 226 4 (rns (sorted R)) false)]):=by
 have hlR:(rns R).length=N:=by rw [hN]; exact rns_len R
 have c168_:CallDet Tryz.prog 168 [.d (.int .u64 (IntKind.u64.wrap (((rns R).length:Nat):Int)))] [.int .i64 (lenB N)]:=by rw [hlR,wrapU N (by omega)]; exact c168 N (by omega)
 have c180i_:CallIn Tryz.prog 180 [.sl 6 N,.d (.int .i64 0),.d (.int .i64 (((rns R).length:Nat):Int)),.d (.int .i64 (lenB N)),.d (.fn (.func 154) [])] [.none,.none,.none,.none,.none,.none,.row 226 4 (rns R) false,.box cs,.none,.none] (.tup []) (setAll [.none,.none,.none,.none,.none,.none,.row 226 4 (rns R) false,.box cs,.none,.none] [(6,.row 226 4 (rns (sorted R)) false)]):=by rw [hlR]; exact i180 R hd h8 N hN (lenB N) cs
 refine callIn_of_vc 10 (x:=jr153) (by kernel_rfl) rfl rfl rfl ?_
 refine an ?_ ?_
 assumption
 refine ca rfl ?_
 refine ca (c168_) ?_
 refine Exists.intro _ (Exists.intro _ (And.intro (c180i_) ?_))
 refine sd ?_
 exact rfl
end Vc
set_option maxRecDepth 10000
set_option maxHeartbeats 4000000
namespace Vc
open Go Go.Proofs
def ldX (x:Ld) (seen:List (List UInt8)):Int:=firstOf [bif !(isNm x.1) then 8 else 0,bif seen.contains x.1 then 9 else 0,within3 x.2 0 1000]
def ldE:List Ld→List (List UInt8)→Int
 | [],_=>0
 | x::r,seen=>bif ldX x seen != 0 then ldX x seen else ldE r (seen++[x.1])
def loadsE (l:List Ld):Int:=bif decide ((8:Int) < (l.length:Int)) then 5 else ldE l []
theorem nms_step {l:List Ld} {k:Nat} {x:Ld} (h:l[k]?=some x):(l.take (k+1)).map Prod.fst=(l.take k).map Prod.fst++[x.1]:=by
 rw [take_one h,List.map_append]; rfl
def jr88:AFun:=⟨48,3,[.tmp 2],
 (.seq
 (.reg [] [⟨some 2,.mov (.cst (.d (.int .i64 0))),none⟩])
 (.seq
  (.seq
  (.reg [] [⟨some 6,.mov (.tmp 0),none⟩,
   ⟨some 7,.len (.tmp 6),none⟩,
   ⟨some 8,.cmp .gtr (.tmp 7) (.cst (.d (.int .i64 8))),none⟩])
  (.cond (.tmp 8)
   (.seq
   (.reg [] [⟨some 2,.mov (.cst (.d (.int .i64 5))),none⟩])
   .ret)
   .skip))
  (.seq
  (.reg [] [⟨some 3,.mov (.cst (.nils 1)),none⟩])
  (.seq
   (.seq
   (.reg [] [⟨some 4,.mov (.cst (.d (.int .i64 0))),none⟩])
   (.post [] [0,1,2]
    (.block 0
    (.asrow 2 9 1 3
     (.keep [0,3,4] []
     (.loop
      (.post [0,3,4] [0,1,2]
      (.seq
       (.seq
       (.reg [] [⟨some 9,.mov (.tmp 4),none⟩,
        ⟨some 10,.mov (.tmp 0),none⟩,
        ⟨some 11,.len (.tmp 10),none⟩,
        ⟨some 12,.cmp .lss (.tmp 9) (.tmp 11),none⟩])
       (.cond (.tmp 12)
        .skip
        (.exit 0)))
       (.seq
       (.block 1
        (.seq
        (.seq
         (.regd [0] [⟨some 15,.mov (.tmp 0),none⟩,
          ⟨some 16,.mov (.tmp 4),none⟩,
          ⟨some 17,.ixa 2 (.tmp 15) (.tmp 16),none⟩,
          ⟨some 18,.fad 0 (.tmp 17),none⟩,
          ⟨some 19,.ld false 1 (.tmp 18),none⟩,
          ⟨some 20,.call 111 [(.tmp 19)],none⟩,
          ⟨some 21,.mov (.tmp 3),none⟩,
          ⟨some 22,.mov (.tmp 0),none⟩,
          ⟨some 23,.mov (.tmp 4),none⟩,
          ⟨some 24,.ixa 2 (.tmp 22) (.tmp 23),none⟩,
          ⟨some 25,.fad 0 (.tmp 24),none⟩,
          ⟨some 26,.ld false 1 (.tmp 25),none⟩,
          ⟨some 27,.call 92 [(.tmp 21),(.tmp 26)],none⟩,
          ⟨some 28,.call 22 [(.tmp 27),(.cst (.d (.int .i64 9)))],none⟩,
          ⟨some 29,.mov (.tmp 0),none⟩,
          ⟨some 30,.mov (.tmp 4),none⟩,
          ⟨some 31,.ixa 2 (.tmp 29) (.tmp 30),none⟩,
          ⟨some 32,.fad 1 (.tmp 31),none⟩,
          ⟨some 33,.ld false 1 (.tmp 32),none⟩,
          ⟨some 34,.call 112 [(.tmp 33),(.cst (.d (.int .i64 0))),(.cst (.d (.int .i64 1000)))],none⟩,
          ⟨some 35,.bsl 0 3 1 3 [(.int .i64 0),(.int .i64 0),(.int .i64 0)] [(0,(.tmp 20)),(1,(.tmp 28)),(2,(.tmp 34))],none⟩,
          ⟨some 36,.call 110 [(.tmp 35)],none⟩,
          ⟨some 5,.mov (.tmp 36),none⟩] [(0,1),(0,6),(1,6),(2,6),(3,6),(4,6),(5,6),(0,7),(1,7),(2,7),(3,7),(4,7),(5,7),(6,7),(0,8),(1,8),(2,8),(3,8),(4,8),(5,8),(6,8),(7,8),(0,9),(1,9),(2,9),(3,9),(4,9),(5,9),(6,9),(0,10),(1,10),(2,10),(3,10),(4,10),(5,10),(6,10),(0,11),(1,11),(2,11),(3,11),(4,11),(5,11),(6,11),(0,14),(1,14),(2,14),(3,14),(4,14),(5,14),(6,14),(7,14),(8,14),(9,14),(10,14),(11,14),(12,14),(13,14),(0,15),(1,15),(2,15),(3,15),(4,15),(5,15),(6,15),(7,15),(8,15),(9,15),(10,15),(11,15),(12,15),(13,15),(14,15),(0,16),(1,16),(2,16),(3,16),(4,16),(5,16),(6,16),(7,16),(8,16),(9,16),(10,16),(11,16),(12,16),(13,16),(0,17),(1,17),(2,17),(3,17),(4,17),(5,17),(6,17),(7,17),(8,17),(9,17),(10,17),(11,17),(12,17),(13,17),(0,18),(1,18),(2,18),(3,18),(4,18),(5,18),(6,18),(7,18),(8,18),(9,18),(10,18),(11,18),(12,18),(13,18)])
         (.seq
         (.reg [] [⟨some 37,.mov (.tmp 5),none⟩,
          ⟨some 38,.cmp .neq (.tmp 37) (.cst (.d (.int .i64 0))),none⟩])
         (.cond (.tmp 38)
          (.seq
          (.reg [] [⟨some 39,.mov (.tmp 5),none⟩,
           ⟨some 2,.mov (.tmp 39),none⟩])
          .ret)
          .skip)))
        (.reg [1,2] [⟨some 40,.mov (.tmp 3),none⟩,
         ⟨some 41,.mov (.tmp 0),none⟩,
         ⟨some 42,.mov (.tmp 4),none⟩,
         ⟨some 43,.ixa 2 (.tmp 41) (.tmp 42),none⟩,
         ⟨some 44,.fad 0 (.tmp 43),none⟩,
         ⟨some 45,.ld false 1 (.tmp 44),none⟩,
         ⟨some 46,.bsl 1 9 1 1 [(.str [])] [(0,(.tmp 45))],none⟩,
         ⟨some 47,.app 2 9 1 16 (.tmp 40) (.tmp 46),none⟩,
         ⟨some 3,.mov (.tmp 47),none⟩])))
       (.reg [] [⟨some 13,.mov (.tmp 4),none⟩,
        ⟨some 14,.arith .add .i64 (.tmp 13) (.cst (.d (.int .i64 1))),none⟩,
        ⟨some 4,.mov (.tmp 14),none⟩]))))))))))
   (.seq
   (.reg [] [⟨some 2,.mov (.cst (.d (.int .i64 0))),none⟩])
   .ret)))))⟩
theorem c88 (l:List Ld) (hl:l.length≤1048576):CallDet Tryz.prog 88 [.d (.slice 2 (lds l))] [.int .i64 (loadsE l)]:=by
 have hlen:=lds_len l
 have m1:(8:Int) < ((lds l).length:Int)→loadsE l=5:=fun h=>by unfold loadsE; rw [decide_eq_true (by omega)]; rfl
 have m2:¬ (8:Int) < ((lds l).length:Int)→loadsE l=ldE l []:=fun h=>by unfold loadsE; rw [decide_eq_false (by omega)]; rfl
 refine call_of_vc (x:=jr88) (by kernel_rfl) rfl ?_
 refine sd ?_
 refine b_lt (fun t1=>?_) (fun t1=>?_)
 rotate_left
 rotate_left
 ·show resV [.int .i64 5]=resV [.int .i64 (loadsE l)]
  rw [m1 t1]
 rw [m2 t1]
 refine loop_st (fun k:Nat=>⟨[(0,.d (.slice 2 (lds l))),(3,.sl 2 (strs ((l.take k).map Prod.fst)).length),(4,.d (.int .i64 (k:Nat)))],[.none,.none,.row 9 1 (strs ((l.take k).map Prod.fst)) false]⟩) (fun k=>k≤l.length∧ldE l []=ldE (l.drop k) ((l.take k).map Prod.fst)) (fun k=>l.length - k) 0 rfl ⟨Nat.zero_le _,rfl⟩ ?_
 rintro k ⟨hk,hi⟩
 have hk:k≤l.length:=hk
 have hns:((l.take k).map Prod.fst).length=k:=by rw [List.length_map,List.length_take]; omega
 have hns2:(strs ((l.take k).map Prod.fst)).length=k:=by unfold strs; rw [List.length_map]; exact hns
 dsimp only
 by_cases hkn:k < l.length
 ·refine Exists.elim (get_lt l hkn) fun x hx=>?_
  have hx1:=lds_at hx
  rw [drop_at hx,ldE] at hi
  have hst:strs ((l.take (k+1)).map Prod.fst)=strs ((l.take k).map Prod.fst)++[Data.str x.1]:=by rw [nms_step hx]; unfold strs; rw [List.map_append]; rfl
  have c92_:=c92 ((l.take k).map Prod.fst) x.1 (by omega)
  have c110_:CallDet Tryz.prog 110 [.d (.slice 1 [.int .i64 (bif !(isNm x.1) then 8 else 0),.int .i64 (bif ((l.take k).map Prod.fst).contains x.1 then 9 else 0),.int .i64 (within3 x.2 0 1000)])] [.int .i64 (ldX x ((l.take k).map Prod.fst))]:=c110 [bif !(isNm x.1) then 8 else 0,bif ((l.take k).map Prod.fst).contains x.1 then 9 else 0,within3 x.2 0 1000] (by simp)
  have fin:ldX x ((l.take k).map Prod.fst)=0→∃ a':Nat,((a'≤l.length∧ldE l []=ldE (l.drop a') ((l.take a').map Prod.fst))∧l.length - a' < l.length - k)∧(⟨[(0,.d (.slice 2 (lds l))),(3,.sl 2 (strs ((l.take k).map Prod.fst)++[Data.str x.1]).length),(4,.d (.int .i64 ((k:Int)+1)))],[.none,.none,.row 9 1 (strs ((l.take k).map Prod.fst)++[Data.str x.1]) false]⟩:St)=⟨[(0,.d (.slice 2 (lds l))),(3,.sl 2 (strs ((l.take a').map Prod.fst)).length),(4,.d (.int .i64 (a':Nat)))],[.none,.none,.row 9 1 (strs ((l.take a').map Prod.fst)) false]⟩:=fun e =>
   ⟨k+1,⟨⟨by omega,by rw [hi,e,nms_step hx]; rfl⟩,by omega⟩,by rw [hst]; rfl⟩
  refine sd ?_
  refine b_lt (fun t2=>?_) (fun t2=>?_)
  refine ix_at hx1 ?_ ?_
  (show (0:Int)≤(↑k:Int); omega)
  refine ca (c111 _) ?_
  refine ix_at hx1 ?_ ?_
  (show (0:Int)≤(↑k:Int); omega)
  refine sd ?_
  refine ca c92_ ?_
  refine ca (c22 _ _) ?_
  refine ix_at hx1 ?_ ?_
  (show (0:Int)≤(↑k:Int); omega)
  refine ca (c112 _ _ _) ?_
  refine sd ?_
  refine sd ?_
  refine ca c110_ ?_
  refine sd ?_
  refine b_ne (fun t3=>?_) (fun t3=>?_)
  rotate_left
  refine ix_at hx1 ?_ ?_
  (show (0:Int)≤(↑k:Int); omega)
  refine sd ?_
  refine sd ?_
  refine sd ?_
  refine an ?_ ?_
  refine an ?_ ?_
  exact rfl
  refine an ?_ ?_
  exact rfl
  refine an ?_ ?_
  exact rfl
  refine an ?_ ?_
  (show (List.length (strs (List.map Prod.fst (List.take k l)))+(1:Nat)) * (16:Nat)≤(2:Nat) ^ (47:Nat); omega)
  (show List.length (strs (List.map Prod.fst (List.take k l)))+(1:Nat)≤(2:Nat) ^ (47:Nat); omega)
  refine ar_add ?_ ?_
  refine an ?_ ?_
  (show (-9223372036854775808:Int)≤(↑k:Int)+(1:Int); omega)
  (show (↑k:Int)+(1:Int)≤(9223372036854775807:Int); omega)
  rotate_left
  (exfalso; omega)
  ·rw [hi,bne_iff_ne.2 t3]; rfl
  ·exact fin t3
 ·have e:l.drop k=[]:=List.drop_eq_nil_of_le (by omega)
  rw [e] at hi
  rw [hi]
  refine sd ?_
  refine b_lt (fun t2=>?_) (fun t2=>?_)
  (exfalso; omega)
  exact rfl
  all_goals rfl
end Vc
