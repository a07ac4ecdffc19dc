import Derived.Test.YtmffgalmdnpcgaaGreatDoorG23
import Derived.Test.YtmffgalmdnpcgaaGreatDoorG29
import Derived.Test.YtmffgalmdnpcgaaGreatDoorG08
set_option linter.unusedSectionVars false
set_option linter.unusedVariables false
set_option linter.unusedSimpArgs false
set_option maxRecDepth 100000
set_option maxHeartbeats 4000000
namespace Vc
open Go Go.Proofs
def bookD:Data:=.agg [.int .i64 10,.slice 6 [.agg [.int .i64 0,.int .i64 (-10),.slice 1 [.int .i64 100,.int .i64 50,.int .i64 200],.slice 1 [.slice 2 [.agg [.int .i64 0,.int .i64 1],.agg [.int .i64 21600,.int .i64 0],.agg [.int .i64 79200,.int .i64 1]],.slice 2 [.agg [.int .i64 0,.int .i64 1]]],.slice 8 [.agg [.int .i64 0,.int .i64 0,.int .i64 0,.int .i64 0,.int .i64 0,.int .i64 0,.int .i64 1,.int .i64 1]],.slice 2 [.agg [.int .i64 10,.int .i64 20]]],.agg [.int .i64 20,.int .i64 5,.slice 1 [.int .i64 80],.slice 1 [.slice 2 [.agg [.int .i64 0,.int .i64 0]]],.slice 8 [.agg [.int .i64 0,.int .i64 0,.int .i64 0,.int .i64 0,.int .i64 0,.int .i64 0,.int .i64 0,.int .i64 0]],.slice 2 []]]]
def shortD:Data:=.agg [.int .i64 18000,.int .i64 3600,.slice 1 [.int .i64 4,.int .i64 5,.int .i64 3]]
def oldV:Tf:=⟨[100,50,200],[[(0,1),(21600,0),(79200,1)],[(0,1)]],[⟨0,0,0,0,0,0,1,1⟩],[(10,20)]⟩
def youngV:Tf:=⟨[80],[[(0,0)]],[⟨0,0,0,0,0,0,0,0⟩],[]⟩
def bookV:List Vr:=[⟨0,-10,oldV⟩,⟨20,5,youngV⟩]
theorem bookV_ok:∀ x∈bookV,x.t.ok:=by
 intro x hx
 have h2:x=⟨0,-10,oldV⟩∨x=⟨20,5,youngV⟩:=by simpa [bookV] using hx
 rcases h2 with e | e <;> subst e <;> exact ⟨by decide,by decide,by decide,by decide,by decide⟩
theorem c34a:CallDet Tryz.prog 34 [.d bookD,.d (.int .i64 0),.d (.int .i64 86400)] [.slice 1 [.int .i64 21600,.int .i64 79200],.int .i64 0]:=by
 have h:=c34' 10 bookV (by decide) bookV_ok 0 86400
 have e1:chR 10 bookV 0 86400=[21600,79200]:=by kernel_rfl
 have e2:chE 10 bookV 0 86400=0:=by kernel_rfl
 rw [e1,e2] at h
 exact h
theorem c34b:CallDet Tryz.prog 34 [.d bookD,.d (.int .i64 1641600),.d (.int .i64 1728001)] [.slice 1 [.int .i64 1728000],.int .i64 0]:=by
 have h:=c34' 10 bookV (by decide) bookV_ok 1641600 1728001
 have e1:chR 10 bookV 1641600 1728001=[1728000]:=by kernel_rfl
 have e2:chE 10 bookV 1641600 1728001=0:=by kernel_rfl
 rw [e1,e2] at h
 exact h
def noR:FuncId→List AVal→Option (Nat × Nat × List Data):=fun _ _=>none
def noL:FuncId→List AVal→Option (List Data):=fun _ _=>none
theorem noR_good (f:FuncId) (xs:List AVal) (t sz:Nat) (es:List Data) (h:noR f xs=some (t,sz,es)):CallRow Tryz.prog f xs t sz es:=by cases h
theorem noL_good (f:FuncId) (xs:List AVal) (rs:List Data) (h:noL f xs=some rs):CallDet Tryz.prog f xs rs:=by cases h
theorem m120:CallDet Tryz.prog 120 [.d bookD,.d shortD,.d (.int .i64 0)] [.int .i64 0] :=
 callDR_good noR_good (chkT_spec (chkT_room (m:=100) tab07_chk)) noL_good (fuel:=100000) ((callFR_eq _ _ _ _ _ _ _).symm.trans (show callFR Tryz.prog noR (getT (roomT 100 tab07)) noL 100000 120 [.d bookD,.d shortD,.d (.int .i64 0)]=some [.int .i64 0] by kernel_rfl))
theorem m121:CallDet Tryz.prog 121 [.d bookD,.d shortD,.d (.int .i64 0)] [.slice 5 [.agg [.int .i64 0,.int .i64 1,.int .i64 50,.int .i64 4,.int .i64 200],.agg [.int .i64 0,.int .i64 0,.int .i64 100,.int .i64 5,.int .i64 500],.agg [.int .i64 0,.int .i64 0,.int .i64 100,.int .i64 3,.int .i64 340]],.agg [.int .i64 12,.int .i64 1040,.int .i64 12],.int .i64 0] :=
 callDR_good noR_good (chkT_spec (chkT_room (m:=100) tab07_chk)) noL_good (fuel:=100000) ((callFR_eq _ _ _ _ _ _ _).symm.trans (show callFR Tryz.prog noR (getT (roomT 100 tab07)) noL 100000 121 [.d bookD,.d shortD,.d (.int .i64 0)]=some [.slice 5 [.agg [.int .i64 0,.int .i64 1,.int .i64 50,.int .i64 4,.int .i64 200],.agg [.int .i64 0,.int .i64 0,.int .i64 100,.int .i64 5,.int .i64 500],.agg [.int .i64 0,.int .i64 0,.int .i64 100,.int .i64 3,.int .i64 340]],.agg [.int .i64 12,.int .i64 1040,.int .i64 12],.int .i64 0] by kernel_rfl))
end Vc
set_option maxRecDepth 10000
namespace Vc
open Go Go.Proofs Go.RowKit
theorem c182 (n:Int) (h:0≤n∧n≤18446744073709551615):CallDet Tryz.prog 182 [.d (.int .u64 n)] [.int .i64 (Lib.bitLen n.toNat)]:=by
 refine ⟨hasFnB_spec (by kernel_rfl),fun w S vs hv hS _=>?_⟩
 simp only [VRels,VRel,DRel] at hv
 obtain ⟨v1,r,rfl,rfl,rfl⟩:=hv
 refine (Tryz.bits_Len n w h.1 h.2).mono ?_
 rintro e w' ⟨rfl,rfl⟩
 exact ⟨_,S,rfl,Below.refl _ _,fun _ _ h=>h,fun _ _ h=>.inl h,fun b o h=>hS b o h,by simp only [resV,VRel,DRel]⟩
end Vc
set_option maxRecDepth 10000
set_option maxHeartbeats 4000000
namespace Vc
open Go Go.Proofs
def jr227:AFun:=⟨6,0,[.tmp 2],
 (.seq
 (.reg [] [⟨some 2,.mov (.cst (.d (.bool false))),none⟩])
 (.seq
  (.reg [] [⟨some 3,.mov (.tmp 0),none⟩,
   ⟨some 4,.mov (.tmp 0),none⟩,
   ⟨some 5,.cmp .neq (.tmp 3) (.tmp 4),none⟩,
   ⟨some 2,.mov (.tmp 5),none⟩])
  .ret))⟩
def jr184:AFun:=⟨20,0,[.tmp 4],
 (.seq
 (.reg [] [⟨some 4,.mov (.cst (.d (.int .i64 0))),none⟩])
 (.seq
  (.reg [] [⟨some 7,.mov (.tmp 0),none⟩,
   ⟨some 8,.call 227 [(.tmp 7)],none⟩,
   ⟨some 5,.mov (.tmp 8),none⟩])
  (.seq
  (.reg [] [⟨some 9,.mov (.tmp 1),none⟩,
   ⟨some 10,.call 227 [(.tmp 9)],none⟩,
   ⟨some 6,.mov (.tmp 10),none⟩])
  (.seq
   (.seq
   (.reg [] [⟨some 11,.mov (.tmp 5),none⟩])
   (.cond (.tmp 11)
    (.seq
    (.seq
     (.reg [] [⟨some 12,.mov (.tmp 6),none⟩])
     (.cond (.tmp 12)
     (.seq
      (.reg [] [⟨some 4,.mov (.cst (.d (.int .i64 0))),none⟩])
      .ret)
     .skip))
    (.seq
     (.reg [] [⟨some 4,.mov (.cst (.d (.int .i64 (-1)))),none⟩])
     .ret))
    .skip))
   (.seq
   (.seq
    (.reg [] [⟨some 13,.mov (.tmp 6),none⟩])
    (.cond (.tmp 13)
    (.seq
     (.reg [] [⟨some 4,.mov (.cst (.d (.int .i64 1))),none⟩])
     .ret)
    .skip))
   (.seq
    (.seq
    (.reg [] [⟨some 14,.mov (.tmp 0),none⟩,
     ⟨some 15,.mov (.tmp 1),none⟩,
     ⟨some 16,.cmp .lss (.tmp 14) (.tmp 15),none⟩])
    (.cond (.tmp 16)
     (.seq
     (.reg [] [⟨some 4,.mov (.cst (.d (.int .i64 (-1)))),none⟩])
     .ret)
     .skip))
    (.seq
    (.seq
     (.reg [] [⟨some 17,.mov (.tmp 0),none⟩,
      ⟨some 18,.mov (.tmp 1),none⟩,
      ⟨some 19,.cmp .gtr (.tmp 17) (.tmp 18),none⟩])
     (.cond (.tmp 19)
     (.seq
      (.reg [] [⟨some 4,.mov (.cst (.d (.int .i64 1))),none⟩])
      .ret)
     .skip))
    (.seq
     (.reg [] [⟨some 4,.mov (.cst (.d (.int .i64 0))),none⟩])
     .ret))))))))⟩
def jr183:AFun:=⟨18,0,[.tmp 2],
 (.seq
 (.reg [] [⟨some 2,.mov (.cst (.d (.int .i64 0))),none⟩])
 (.seq
  (.reg [] [⟨some 3,.mov (.cst (.d (.int .i64 0))),none⟩])
  (.seq
  (.seq
   (.reg [] [⟨some 6,.mov (.tmp 0),none⟩,
    ⟨some 7,.len (.tmp 6),none⟩,
    ⟨some 8,.mov (.cst (.d (.int .i64 0))),none⟩])
   (.post [3] []
   (.block 0
    (.keep [3,6,7,8] []
    (.loop
     (.post [3,6,7,8] []
     (.seq
      (.reg [] [⟨some 9,.cmp .lss (.tmp 8) (.tmp 7),none⟩])
      (.seq
      (.cond (.tmp 9)
       .skip
       (.exit 0))
      (.seq
       (.block 1
       (.seq
        (.reg [] [⟨some 10,.ixa 1 (.tmp 6) (.tmp 8),none⟩,
         ⟨some 11,.ld false 1 (.tmp 10),none⟩,
         ⟨some 5,.mov (.tmp 11),none⟩])
        (.seq
        (.reg [] [⟨some 12,.mov (.tmp 5),none⟩,
         ⟨some 13,.mov (.tmp 3),none⟩,
         ⟨some 14,.cmp .neq (.tmp 12) (.tmp 13),none⟩])
        (.cond (.tmp 14)
         (.seq
         (.reg [] [⟨some 15,.mov (.tmp 5),none⟩,
          ⟨some 2,.mov (.tmp 15),none⟩])
         .ret)
         .skip))))
       (.reg [] [⟨some 16,.arith .add .i64 (.tmp 8) (.cst (.d (.int .i64 1))),none⟩,
        ⟨some 8,.mov (.tmp 16),none⟩]))))))))))
  (.seq
   (.reg [] [⟨some 17,.mov (.tmp 3),none⟩,
    ⟨some 2,.mov (.tmp 17),none⟩])
   .ret))))⟩
def jr123:AFun:=⟨17,3,[.tmp 4],
 (.seq
 (.reg [0,1] [⟨some 2,.cbx 0 3 (.tmp 0),none⟩,
  ⟨some 3,.cbx 1 3 (.tmp 1),none⟩,
  ⟨some 4,.mov (.cst (.d (.int .i64 0))),none⟩])
 (.seq
  (.regd [2] [⟨some 5,.fad 0 (.tmp 2),none⟩,
   ⟨some 6,.ld false 1 (.tmp 5),none⟩,
   ⟨some 7,.fad 0 (.tmp 3),none⟩,
   ⟨some 8,.ld false 1 (.tmp 7),none⟩,
   ⟨some 9,.call 184 [(.tmp 6),(.tmp 8)],none⟩,
   ⟨some 10,.fad 1 (.tmp 2),none⟩,
   ⟨some 11,.ld false 1 (.tmp 10),none⟩,
   ⟨some 12,.fad 1 (.tmp 3),none⟩,
   ⟨some 13,.ld false 1 (.tmp 12),none⟩,
   ⟨some 14,.call 184 [(.tmp 11),(.tmp 13)],none⟩,
   ⟨some 15,.bsl 2 3 1 2 [(.int .i64 0),(.int .i64 0)] [(0,(.tmp 9)),(1,(.tmp 14))],none⟩,
   ⟨some 16,.call 183 [(.tmp 15)],none⟩,
   ⟨some 4,.mov (.tmp 16),none⟩] [(0,2),(1,2),(0,3),(1,3),(0,5),(1,5),(2,5),(3,5),(4,5),(0,6),(1,6),(2,6),(3,6),(4,6),(0,7),(1,7),(2,7),(3,7),(4,7),(5,7),(6,7),(0,8),(1,8),(2,8),(3,8),(4,8),(5,8),(6,8)])
  .ret))⟩
def cmpI (a b:Int):Int:=if a < b then -1 else if b < a then 1 else 0
def or2 (a b:Int):Int:=bif a != 0 then a else b
theorem c227 (a:Int):CallDet Tryz.prog 227 [.d (.int .i64 a)] [.bool false]:=by
 refine call_of_vc (x:=jr227) (by kernel_rfl) rfl ?_
 refine sd ?_
 rotate_left
 exact res_b (by show cmpF .neq a a=false; simp [cmpF])
theorem c184 (a b:Int):CallDet Tryz.prog 184 [.d (.int .i64 a),.d (.int .i64 b)] [.int .i64 (cmpI a b)]:=by
 have c227_1:=c227 a
 have c227_2:=c227 b
 refine call_of_vc (x:=jr184) (by kernel_rfl) rfl ?_
 refine ca c227_1 ?_
 refine ca c227_2 ?_
 refine sd ?_
 refine b_lt (fun t1=>?_) (fun t1=>?_)
 rotate_left
 refine sd ?_
 refine b_lt (fun t2=>?_) (fun t2=>?_)
 rotate_left
 rotate_left
 ·exact res_c (if_pos t1).symm
 ·exact res_c (by unfold cmpI; rw [if_neg t1,if_pos t2])
 ·exact res_c (by unfold cmpI; rw [if_neg t1,if_neg t2])
theorem c183 (a b:Int):CallDet Tryz.prog 183 [.d (.slice 1 [.int .i64 a,.int .i64 b])] [.int .i64 (or2 a b)]:=by
 refine call_of_vc (x:=jr183) (by kernel_rfl) rfl ?_
 refine loop_st (fun k:Nat=>⟨[(3,.d (.int .i64 0)),(6,.d (.slice 1 [.int .i64 a,.int .i64 b])),(7,.d (.int .i64 2)),(8,.d (.int .i64 (k:Int)))],[]⟩) (fun k=>k=0∨(a=0∧k=1)∨(a=0∧b=0∧k=2)) (fun k=>2 - k) 0 rfl (Or.inl rfl) ?_
 rintro k hk
 dsimp only
 have h0:([.int .i64 a,.int .i64 b]:List Data)[(((0:Nat):Int)).toNat]?=some (.int .i64 a):=rfl
 have h1:([.int .i64 a,.int .i64 b]:List Data)[(((1:Nat):Int)).toNat]?=some (.int .i64 b):=rfl
 rcases hk with h | h | h
 ·subst h
  refine sd ?_
  refine ix_at h0 ?_ ?_
  (show (0:Int)≤(↑(0:Nat):Int); omega)
  refine sd ?_
  refine b_ne (fun t1=>?_) (fun t1=>?_)
  rotate_left
  refine ar_add ?_ ?_
  refine an ?_ ?_
  (show (-9223372036854775808:Int)≤(↑(0:Nat):Int)+(1:Int); omega)
  (show (↑(0:Nat):Int)+(1:Int)≤(9223372036854775807:Int); omega)
  rotate_left
  ·exact res_c (by unfold or2; rw [bne_t t1]; rfl)
  ·exact ⟨1,⟨Or.inr (Or.inl ⟨t1,rfl⟩),by omega⟩,rfl⟩
 ·have hk1:=h.2
  subst hk1
  refine sd ?_
  refine ix_at h1 ?_ ?_
  (show (0:Int)≤(↑(1:Nat):Int); omega)
  refine sd ?_
  refine b_ne (fun t1=>?_) (fun t1=>?_)
  rotate_left
  refine ar_add ?_ ?_
  refine an ?_ ?_
  (show (-9223372036854775808:Int)≤(↑(1:Nat):Int)+(1:Int); omega)
  (show (↑(1:Nat):Int)+(1:Int)≤(9223372036854775807:Int); omega)
  rotate_left
  ·exact res_c (by rw [h.1]; rfl)
  ·exact ⟨2,⟨Or.inr (Or.inr ⟨h.1,t1,rfl⟩),by omega⟩,rfl⟩
 ·have hk1:=h.2.2
  subst hk1
  refine sd ?_
  rotate_left
  exact res_c (by rw [h.1,h.2.1]; rfl)
def rtCmp (x y:Int × Int × Int):Int:=or2 (cmpI x.1 y.1) (cmpI x.2.1 y.2.1)
theorem c123 (x y:Int × Int × Int):CallDet Tryz.prog 123 [.d (.agg [.int .i64 x.1,.int .i64 x.2.1,.int .i64 x.2.2]),.d (.agg [.int .i64 y.1,.int .i64 y.2.1,.int .i64 y.2.2])] [.int .i64 (rtCmp x y)]:=by
 have c184_1:=c184 x.1 y.1
 have c184_2:=c184 x.2.1 y.2.1
 have c183_:=c183 (cmpI x.1 y.1) (cmpI x.2.1 y.2.1)
 refine call_of_vc (x:=jr123) (by kernel_rfl) rfl ?_
 refine ca c184_1 ?_
 refine ca c184_2 ?_
 refine sd ?_
 refine sd ?_
 refine ca c183_ ?_
 exact rfl
end Vc
