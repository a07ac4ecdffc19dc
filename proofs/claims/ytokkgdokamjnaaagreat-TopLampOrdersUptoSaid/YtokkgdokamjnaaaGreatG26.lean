import Derived.Test.YtokkgdokamjnaaaGreatG21
import Derived.Test.YtokkgdokamjnaaaGreatG25
import Derived.Test.YtokkgdokamjnaaaGreatG07
set_option linter.unusedSectionVars false
set_option linter.unusedVariables false
set_option linter.unusedSimpArgs false
set_option maxRecDepth 10000
set_option maxHeartbeats 4000000
namespace Vc
open Go Go.Proofs
theorem osF_all {b0 b1:Bool} {t0 t1 N:Int} (hb0:(b0=true∧0≤t0∧t0≤2000000)∨(b0=false∧t0=-1)) (hb1:(b1=true∧0≤t1∧t1≤2000000)∨(b1=false∧t1=-1)) (h01:b0=true→b1=true→t0≤t1) (hN0:0≤N) (h0:t0≤N) (h1:t1≤N):L.ckS ⟨true,false,osF b0 b1 t0 t1⟩=0∧L.lst ⟨true,false,osF b0 b1 t0 t1⟩≤N:=by
 rcases hb0 with ⟨rfl,p0,q0⟩ | ⟨rfl,p0⟩ <;> rcases hb1 with ⟨rfl,p1,q1⟩ | ⟨rfl,p1⟩
 ·have h01:=h01 rfl rfl
  exact ⟨osF_ck true true (by omega) (by omega) h01,by show t1≤N; omega⟩
 ·exact ⟨osF_ck true false (t0:=t0) (t1:=t0) (by omega) (by omega) (by omega),by show t0≤N; omega⟩
 ·exact ⟨osF_ck false true (t0:=t1) (t1:=t1) (by omega) (by omega) (by omega),by show t1≤N; omega⟩
 ·exact ⟨osF_ck false false (t0:=0) (t1:=0) (by decide) (by decide) (by decide),by show 0≤N; omega⟩
theorem w3b {m:Ms} {H:List L.Hr} {xs:List (Int × Int)} {n0 n1 n2 T0 la f0:Int} {mi T F:Nat} {Q:AExit→St→Prop} {w0 w1 t0 t1:Int} (hc:m.chk=0) (hn1:1≤m.ns.length) (hn7:m.ns.length≤7) (hl14:m.ls.length≤14) (hT:T≤1000000) (hF:F≤3000) (hla:0≤la∧la≤65535) (hcH:L.ckH H=0) (hw0:-1≤w0∧w0 < m.ns.length) (hw1:-1≤w1∧w1 < m.ns.length) (ht0:t0=bif decide (0≤w0) then (T:Int)+100 * ((((strs m.ns).length:Nat):Int) * 0+w0) else -1) (ht1:t1=bif decide (0≤w1) then (T:Int)+100 * ((((strs m.ns).length:Nat):Int) * 1+w1) else -1) (hR:∀ st,endP [.tmp 6] [.bool true] st→Q .ret st):vc Tryz.prog 340 rest3b ⟨[(1,.d (.slice 9 (L.hrs H))),(5,.ptr 1 0),(7,.d (.int .i64 (((strs m.ns).length:Nat):Int))),(9,.d (.int .i64 ((T:Nat):Int))),(10,.d (.int .i64 ((F:Nat):Int))),(14,.ptr 5 0),(15,.ptr 6 0)],[.none,.cbox [.int .u8 n0,.int .u8 n1,.int .u8 n2,.int .u32 T0,.int .u16 la,.int .u16 f0,.slice 2 (lo8 xs)],.none,.none,.none,.box [.d (.bool true),.d (.bool false),.d (.slice 2 ([]))],.box [.d (.int .i64 t0),.d (.int .i64 t1)],.none,.none,.none,.none,.none,.none,.none,.none,.none,.none,.none,.none,.none,.none]⟩ Q:=by
 have hsl:=strs_len m.ns
 have hb0:(decide (0≤w0)=true∧0≤t0∧t0≤2000000)∨(decide (0≤w0)=false∧t0=-1):=by
  by_cases h:0≤w0
  ·rw [decide_eq_true h] at ht0 ⊢
   have ht0:t0=(T:Int)+100 * ((((strs m.ns).length:Nat):Int) * 0+w0):=ht0
   exact .inl ⟨rfl,by omega,by omega⟩
  ·rw [decide_eq_false h] at ht0 ⊢
   exact .inr ⟨rfl,ht0⟩
 have hb1:(decide (0≤w1)=true∧0≤t1∧t1≤2000000)∨(decide (0≤w1)=false∧t1=-1):=by
  by_cases h:0≤w1
  ·rw [decide_eq_true h] at ht1 ⊢
   have ht1:t1=(T:Int)+100 * ((((strs m.ns).length:Nat):Int) * 1+w1):=ht1
   exact .inl ⟨rfl,by omega,by omega⟩
  ·rw [decide_eq_false h] at ht1 ⊢
   exact .inr ⟨rfl,ht1⟩
 have h01:decide (0≤w0)=true→decide (0≤w1)=true→t0≤t1:=fun h h2=>by
  rw [h] at ht0
  rw [h2] at ht1
  have ht0:t0=(T:Int)+100 * ((((strs m.ns).length:Nat):Int) * 0+w0):=ht0
  have ht1:t1=(T:Int)+100 * ((((strs m.ns).length:Nat):Int) * 1+w1):=ht1
  omega
 have hu0:-1≤t0∧t0≤(T:Int)+100 * (((strs m.ns).length:Nat):Int):=by
  by_cases h:0≤w0
  ·rw [decide_eq_true h] at ht0
   have ht0:t0=(T:Int)+100 * ((((strs m.ns).length:Nat):Int) * 0+w0):=ht0
   omega
  ·rw [decide_eq_false h] at ht0
   have ht0:t0=-1:=ht0
   omega
 have hu1:-1≤t1∧t1≤(T:Int)+200 * (((strs m.ns).length:Nat):Int):=by
  by_cases h:0≤w1
  ·rw [decide_eq_true h] at ht1
   have ht1:t1=(T:Int)+100 * ((((strs m.ns).length:Nat):Int) * 1+w1):=ht1
   omega
  ·rw [decide_eq_false h] at ht1
   have ht1:t1=-1:=ht1
   omega
 have hw:0≤IntKind.wrap .i64 la:=by rw [wru (by omega) (by omega)]; omega
 have hN:0≤((T:Int)+200 * (((strs m.ns).length:Nat):Int)+IntKind.wrap .i64 la % 2001)∧((T:Int)+200 * (((strs m.ns).length:Nat):Int)+IntKind.wrap .i64 la % 2001)≤100000000:=by omega
 have hN0:t0≤((T:Int)+200 * (((strs m.ns).length:Nat):Int)+IntKind.wrap .i64 la % 2001):=by omega
 have hN1:t1≤((T:Int)+200 * (((strs m.ns).length:Nat):Int)+IntKind.wrap .i64 la % 2001):=by omega
 have e0:decide (0≤t0)=decide (0≤w0):=by
  rcases hb0 with ⟨e,h,_⟩ | ⟨e,h⟩
  ·rw [e,decide_eq_true h]
  ·rw [e,decide_eq_false (by omega)]
 have e1:decide (0≤t1)=decide (0≤w1):=by
  rcases hb1 with ⟨e,h,_⟩ | ⟨e,h⟩
  ·rw [e,decide_eq_true h]
  ·rw [e,decide_eq_false (by omega)]
 obtain ⟨hcS,hlst⟩:=osF_all hb0 hb1 h01 hN.1 hN0 hN1
 have hYq:=osF_few (decide (0≤w0)) (decide (0≤w1)) t0 t1 ((T:Int)+200 * (((strs m.ns).length:Nat):Int)+IntKind.wrap .i64 la % 2001) (F:Int)
 have hY0:=frI_b (decide (0≤w0)) ((T:Int)+200 * (((strs m.ns).length:Nat):Int)+IntKind.wrap .i64 la % 2001) (F:Int) t0
 have hY1:=frI_b (decide (0≤w1)) ((T:Int)+200 * (((strs m.ns).length:Nat):Int)+IntKind.wrap .i64 la % 2001) (F:Int) t1
 rw [← e0,← e1] at hYq hcS hlst
 rw [← e0] at hY0 hb0 h01
 rw [← e1] at hY1 hb1 h01
 unfold rest3b
 rotate_left
 refine v3c (mi:=0) hb0 hb1 h01 (fun y z=>?_)
 rotate_left
 unfold rest3c
 refine ar_mul ?_ ?_
 refine an ?_ ?_
 (show (-9223372036854775808:Int)≤(200:Int) * (↑(List.length (strs (Ms.ns m))):Int); omega)
 (show (200:Int) * (↑(List.length (strs (Ms.ns m))):Int)≤(9223372036854775807:Int); omega)
 refine ar_add ?_ ?_
 refine an ?_ ?_
 (show (-9223372036854775808:Int)≤(↑T:Int)+(200:Int) * (↑(List.length (strs (Ms.ns m))):Int); omega)
 (show (↑T:Int)+(200:Int) * (↑(List.length (strs (Ms.ns m))):Int)≤(9223372036854775807:Int); omega)
 refine ca rfl ?_
 refine ar_rem ?_ ?_
 refine an ?_ ?_
 assumption
 (show (1:Int)≤(2001:Int); omega)
 refine ar_add ?_ ?_
 refine an ?_ ?_
 (show (-9223372036854775808:Int)≤(↑T:Int)+(200:Int) * (↑(List.length (strs (Ms.ns m))):Int)+IntKind.wrap IntKind.i64 la % (2001:Int); omega)
 (show (↑T:Int)+(200:Int) * (↑(List.length (strs (Ms.ns m))):Int)+IntKind.wrap IntKind.i64 la % (2001:Int)≤(9223372036854775807:Int); omega)
 rotate_left
 refine v3d (m:=m) (xs:=xs) (n0:=0) (n1:=0) (n2:=0) (T0:=0) (la:=0) (f0:=0) (mi:=0) (T:=0) hN (by omega) (by omega) (fun z=>?_)
 rotate_left
 refine w3d (m:=m) (xs:=xs) (n0:=0) (n1:=0) (n2:=0) (T0:=0) (la:=0) (f0:=0) (mi:=0) (T:=0) hcS (osF_len _ _ _ _) hcH hN hF hlst hYq.symm (by omega) (fun st h=>hR st h)
theorem w3a {m:Ms} {H:List L.Hr} {xs:List (Int × Int)} {n0 n1 n2 T0 la f0:Int} {mi T F:Nat} {Q:AExit→St→Prop} (hc:m.chk=0) (hn1:1≤m.ns.length) (hn7:m.ns.length≤7) (hl14:m.ls.length≤14) (hb0:0≤n0∧n0≤255) (hb1:0≤n1∧n1≤255) (hxl:xs.length≤6) (hm:mi < m.ns.length) (hT:T≤1000000) (hF:F≤3000) (hla:0≤la∧la≤65535) (hcH:L.ckH H=0) (hR:∀ st,endP [.tmp 6] [.bool true] st→Q .ret st):vc Tryz.prog 340 rest3a ⟨[(1,.d (.slice 9 (L.hrs H))),(3,.ptr 0 0),(5,.ptr 1 0),(7,.d (.int .i64 (((strs m.ns).length:Nat):Int))),(8,.d (.int .i64 ((mi:Nat):Int))),(9,.d (.int .i64 ((T:Nat):Int))),(10,.d (.int .i64 ((F:Nat):Int))),(11,.sl 4 (prs (loP (((strs m.ns).length:Nat):Int) xs)).length)],[.cbox [.slice 1 (strs m.ns),.slice 3 (lks m.ls)],.cbox [.int .u8 n0,.int .u8 n1,.int .u8 n2,.int .u32 T0,.int .u16 la,.int .u16 f0,.slice 2 (lo8 xs)],.none,.none,.row 38 2 (prs (loP (((strs m.ns).length:Nat):Int) xs)) false,.none,.none,.none,.none,.none,.none,.none,.none,.none,.none,.none,.none,.none,.none,.none,.none]⟩ Q:=by
 unfold rest3a
 rotate_left
 refine v3b hc hn1 hn7 hl14 hb0 hb1 hxl hm hT (fun w0 w1 t0 t1 hw0 hw1 ht0 ht1 z=>?_)
 rotate_left
 refine w3b (mi:=0) hc hn1 hn7 hl14 hT hF hla hcH hw0 hw1 ht0 ht1 (fun st h=>hR st h)
def jr3:AFun:=⟨340,21,[.tmp 6],
 (.seq
 (.reg [0,1] [⟨some 3,.cbx 0 2 (.tmp 0),none⟩,
  ⟨some 5,.cbx 1 7 (.tmp 2),none⟩,
  ⟨some 6,.mov (.cst (.d (.bool false))),none⟩])
 (.seq
  (.seq
  (.reg [] [⟨some 43,.ld true 2 (.tmp 3),none⟩,
   ⟨some 44,.call 4 [(.tmp 43)],none⟩,
   ⟨some 45,.not (.tmp 44),none⟩,
   ⟨some 46,.mov (.tmp 45),none⟩,
   ⟨some 47,.mov (.tmp 1),some (46,false)⟩,
   ⟨some 48,.len (.tmp 47),some (46,false)⟩,
   ⟨some 49,.cmp .gtr (.tmp 48) (.cst (.d (.int .i64 4))),some (46,false)⟩,
   ⟨some 50,.pick (.tmp 46) (.cst (.d (.bool true))) (.tmp 49),none⟩,
   ⟨some 51,.mov (.tmp 50),none⟩,
   ⟨some 52,.mov (.tmp 1),some (51,false)⟩,
   ⟨some 53,.call 5 [(.tmp 52)],some (51,false)⟩,
   ⟨some 54,.cmp .neq (.tmp 53) (.cst (.d (.int .i64 0))),some (51,false)⟩,
   ⟨some 55,.pick (.tmp 51) (.cst (.d (.bool true))) (.tmp 54),none⟩,
   ⟨some 56,.mov (.tmp 55),none⟩,
   ⟨some 57,.fad 6 (.tmp 5),some (56,false)⟩,
   ⟨some 58,.ld false 1 (.tmp 57),some (56,false)⟩,
   ⟨some 59,.len (.tmp 58),some (56,false)⟩,
   ⟨some 60,.cmp .gtr (.tmp 59) (.cst (.d (.int .i64 6))),some (56,false)⟩,
   ⟨some 61,.pick (.tmp 56) (.cst (.d (.bool true))) (.tmp 60),none⟩])
  (.cond (.tmp 61)
   (.seq
   (.reg [] [⟨some 62,.call 6 [],none⟩,
    ⟨some 6,.mov (.tmp 62),none⟩])
   .ret)
   .skip))
  (.seq
  (.reg [] [⟨some 63,.fad 0 (.tmp 3),none⟩,
   ⟨some 64,.ld false 1 (.tmp 63),none⟩,
   ⟨some 65,.len (.tmp 64),none⟩,
   ⟨some 7,.mov (.tmp 65),none⟩])
  (.seq
   (.regd [] [⟨some 66,.fad 0 (.tmp 5),none⟩,
    ⟨some 67,.ixp 3 1 (.tmp 66) (.cst (.d (.int .i64 2))),none⟩,
    ⟨some 68,.ld false 1 (.tmp 67),none⟩,
    ⟨some 69,.conv .i64 (.tmp 68),none⟩,
    ⟨some 70,.mov (.tmp 7),none⟩,
    ⟨some 71,.arith .rem .i64 (.tmp 69) (.tmp 70),none⟩,
    ⟨some 72,.fad 3 (.tmp 5),none⟩,
    ⟨some 73,.ld false 1 (.tmp 72),none⟩,
    ⟨some 74,.conv .i64 (.tmp 73),none⟩,
    ⟨some 75,.arith .rem .i64 (.tmp 74) (.cst (.d (.int .i64 1000001))),none⟩,
    ⟨some 76,.fad 5 (.tmp 5),none⟩,
    ⟨some 77,.ld false 1 (.tmp 76),none⟩,
    ⟨some 78,.conv .i64 (.tmp 77),none⟩,
    ⟨some 79,.arith .rem .i64 (.tmp 78) (.cst (.d (.int .i64 3001))),none⟩,
    ⟨some 8,.mov (.tmp 71),none⟩,
    ⟨some 9,.mov (.tmp 75),none⟩,
    ⟨some 10,.mov (.tmp 79),none⟩] [(0,4),(1,4),(2,4),(3,4),(0,6),(1,6),(2,6),(3,6),(4,6),(5,6),(0,7),(1,7),(2,7),(3,7),(4,7),(5,7),(0,8),(1,8),(2,8),(3,8),(4,8),(5,8),(0,9),(1,9),(2,9),(3,9),(4,9),(5,9),(0,10),(1,10),(2,10),(3,10),(4,10),(5,10),(6,10),(7,10),(8,10),(9,10),(0,11),(1,11),(2,11),(3,11),(4,11),(5,11),(6,11),(7,11),(8,11),(9,11),(0,12),(1,12),(2,12),(3,12),(4,12),(5,12),(6,12),(7,12),(8,12),(9,12),(0,13),(1,13),(2,13),(3,13),(4,13),(5,13),(6,13),(7,13),(8,13),(9,13),(6,14),(7,14),(8,14),(9,14),(10,14),(11,14),(12,14),(13,14),(10,15),(11,15),(12,15),(13,15)])
   (.seq
   (.reg [] [⟨some 11,.mov (.cst (.nils 2)),none⟩])
   (.seq
    (.seq
    (.reg [] [⟨some 80,.fad 6 (.tmp 5),none⟩,
     ⟨some 81,.ld false 1 (.tmp 80),none⟩,
     ⟨some 82,.len (.tmp 81),none⟩,
     ⟨some 83,.mov (.cst (.d (.int .i64 0))),none⟩])
    (.post [1,3,5,7,8,9,10,11] [0,1,2,3,4]
     (.block 0
     (.asrow 4 38 2 11
      (.keep [1,3,5,7,8,9,10,11,81,82,83] [0,1]
      seg3a)))))
    rest3a))))))⟩
theorem k3 (m:Ms) (H:List L.Hr) (xs:List (Int × Int)) (n0 n1 n2 T0 la f0:Int) (hn:m.ns.length≤1048576) (hl:m.ls.length≤1048576) (hHl:H.length≤1048576) (hB:B8 xs) (hb0:0≤n0∧n0≤255) (hb1:0≤n1∧n1≤255) (hb2:0≤n2∧n2≤255) (hT0:0≤T0∧T0≤4294967295) (hla:0≤la∧la≤65535) (hf0:0≤f0∧f0≤65535):CallDet Tryz.prog 3 [.d m.d,.d (.slice 9 (L.hrs H)),.d (.agg [.int .u8 n0,.int .u8 n1,.int .u8 n2,.int .u32 T0,.int .u16 la,.int .u16 f0,.slice 2 (lo8 xs)])] [.bool true]:=by
 have hxx:=lo8_len xs
 have hsl:=strs_len m.ns
 have hhl:=L.hrs_len H
 have c4_:=k4 m hn hl
 have c5_:=L.c50 H hHl
 have c6_:=k6
 cases hf:fewT m with
 | false =>
  rw [hf] at c4_
  refine call_of_vc (x:=jr3) (by kernel_rfl) rfl ?_
  refine ca c4_ ?_
  refine sd ?_
  refine sd ?_
  refine sd ?_
  refine ca c6_ ?_
  exact rfl
 | true =>
  rw [hf] at c4_
  obtain ⟨⟨hn1,hn7⟩,hl14,hc⟩:=few_t hf
  by_cases hcH:L.ckH H=0
  ·rw [hcH] at c5_
   obtain ⟨mi,hr2,hm⟩:=rem_i (a:=IntKind.wrap .i64 n2) (b:=(strs m.ns).length) (by rw [wru (by omega) (by omega)]; omega) (by omega)
   rw [hsl] at hm
   obtain ⟨T,hrT,hT⟩:=rem_i (a:=IntKind.wrap .i64 T0) (b:=1000001) (by rw [wru (by omega) (by omega)]; omega) (by omega)
   obtain ⟨F,hrF,hF⟩:=rem_i (a:=IntKind.wrap .i64 f0) (b:=3001) (by rw [wru (by omega) (by omega)]; omega) (by omega)
   have hrT:arithF .rem .i64 (IntKind.wrap .i64 T0) 1000001=some (T:Int):=hrT
   have hrF:arithF .rem .i64 (IntKind.wrap .i64 f0) 3001=some (F:Int):=hrF
   refine call_of_vc (x:=jr3) (by kernel_rfl) rfl ?_
   refine ca c4_ ?_
   refine sd ?_
   refine b_lt (fun t1=>?_) (fun t1=>?_)
   refine sd ?_
   refine sd ?_
   refine ca c6_ ?_
   exact rfl
   refine ca c5_ ?_
   refine sd ?_
   refine sd ?_
   refine b_lt (fun t2=>?_) (fun t2=>?_)
   refine ca c6_ ?_
   exact rfl
   refine an ?_ ?_
   refine an ?_ ?_
   (show (0:Int)≤(2:Int); omega)
   (show (2:Int) < (↑(3:Nat):Int); omega)
   refine ca rfl ?_
   refine ar_is hr2 ?_
   refine ca rfl ?_
   refine ar_is hrT ?_
   refine ca rfl ?_
   refine ar_is hrF ?_
   rotate_left
   refine v3a hn1 hn7 hB (by omega) (fun z=>?_)
   rotate_left
   refine w3a hc hn1 hn7 hl14 hb0 hb1 (by omega) hm (by omega) (by omega) hla hcH (fun st h=>h)
  ·refine call_of_vc (x:=jr3) (by kernel_rfl) rfl ?_
   refine ca c4_ ?_
   refine sd ?_
   refine b_lt (fun t1=>?_) (fun t1=>?_)
   refine sd ?_
   refine sd ?_
   refine ca c6_ ?_
   exact rfl
   refine ca c5_ ?_
   refine sd ?_
   refine b_ne (fun t2=>?_) (fun t2=>?_)
   refine sd ?_
   refine ca c6_ ?_
   exact rfl
   (exfalso; omega)
end Vc
namespace Vc
open Go Go.Proofs
theorem int_fit {k:IntKind} {r:List CT} {ds:List Data} (h:Fits' (.int k::r) ds):∃ n t,ds=.int k n::t∧(Lit.int k n).wf=true∧Fits' r t:=by
 simp only [Fits',Fit] at h
 obtain ⟨d,t,rfl,⟨n,rfl,hn⟩,ht⟩:=h
 exact ⟨n,t,rfl,hn,ht⟩
theorem i64_fit {r:List CT} {ds:List Data} (h:Fits' (.int .i64::r) ds):∃ (n:Int) (t:List Data),ds=.int .i64 n::t∧(-9223372036854775808≤n∧n≤9223372036854775807)∧Fits' r t:=by
 obtain ⟨n,t,rfl,hn,ht⟩:=int_fit h
 refine ⟨n,t,rfl,?_,ht⟩
 simp [Lit.wf] at hn
 have h1:IntKind.i64.min=-9223372036854775808:=rfl
 have h2:IntKind.i64.max=9223372036854775807:=rfl
 omega
theorem str_fit {r:List CT} {ds:List Data} (h:Fits' (.str::r) ds):∃ b t,ds=.str b::t∧Fits' r t:=by
 simp only [Fits',Fit] at h
 obtain ⟨d,t,rfl,⟨b,rfl⟩,ht⟩:=h
 exact ⟨b,t,rfl,ht⟩
theorem fits_nil {ds:List Vc.Data} (h:Fits' [] ds):ds=[]:=by simpa only [Fits'] using h
theorem strs_fit:∀ {es:List Data},(∀ e∈es,Fits' [.str] [e])→∃ l:List (List UInt8),es=strs l
 | [],_=>⟨[],rfl⟩
 | e::r,h=>by
  obtain ⟨c,t,h1,_⟩:=str_fit (h e List.mem_cons_self)
  obtain ⟨b,rfl⟩:=strs_fit (es:=r) fun x hx=>h x (List.mem_cons_of_mem _ hx)
  cases h1
  exact ⟨c::b,rfl⟩
theorem strl_fit {r:List CT} {ds:List Data} (h:Fits' (.sl false [.str]::r) ds):∃ (b:List (List UInt8)) (t:List Data),ds=.slice 1 (strs b)::t∧Fits' r t:=by
 simp only [Fits'] at h
 obtain ⟨d,t,rfl,hd,ht⟩:=h
 simp only [Fit] at hd
 obtain ⟨es,rfl,he⟩:=hd
 obtain ⟨b,rfl⟩:=strs_fit (es:=es) fun e h=>by
  have:=he e h
  simpa [Fits',Fit] using this
 exact ⟨b,t,rfl,ht⟩
theorem lks_fit:∀ {es:List Data},(∀ e∈es,∃ ds,e=.agg ds∧Fits' [.int .i64,.int .i64,.int .i64] ds)→∃ l:List Lk,es=lks l
 | [],_=>⟨[],rfl⟩
 | e::r,h=>by
  obtain ⟨ds,rfl,hd⟩:=h e List.mem_cons_self
  obtain ⟨a,t1,rfl,_,h1⟩:=i64_fit hd
  obtain ⟨b,t2,rfl,_,h2⟩:=i64_fit h1
  obtain ⟨c,t3,rfl,_,h3⟩:=i64_fit h2
  obtain rfl:=fits_nil h3
  obtain ⟨l,rfl⟩:=lks_fit (es:=r) fun x hx=>h x (List.mem_cons_of_mem _ hx)
  exact ⟨⟨a,b,c⟩::l,rfl⟩
theorem lkl_fit {r:List CT} {ds:List Data} (h:Fits' (.sl true [.int .i64,.int .i64,.int .i64]::r) ds):∃ (l:List Lk) (t:List Data),ds=.slice 3 (lks l)::t∧Fits' r t:=by
 simp only [Fits'] at h
 obtain ⟨d,t,rfl,hd,ht⟩:=h
 simp only [Fit] at hd
 obtain ⟨es,rfl,he⟩:=hd
 obtain ⟨l,rfl⟩:=lks_fit (es:=es) fun e h=>by
  obtain ⟨ds,h1,h2⟩:=he e h
  exact ⟨ds,h1,by simpa only [Fits'] using h2⟩
 exact ⟨l,t,rfl,ht⟩
theorem ms_fit {ds:List Data} (h:Fits' [.sl false [.str],.sl true [.int .i64,.int .i64,.int .i64]] ds):∃ m:Ms,Data.agg ds=m.d:=by
 obtain ⟨a,t1,rfl,h1⟩:=strl_fit h
 obtain ⟨b,t2,rfl,h2⟩:=lkl_fit h1
 obtain rfl:=fits_nil h2
 exact ⟨⟨a,b⟩,rfl⟩
theorem wgts_strs:∀ (l:List (List UInt8)),l.length≤wgts (strs l)
 | []=>Nat.zero_le _
 | s::r=>by
  have h:=wgts_strs r
  have e:wgts (strs (s::r))=(s.length+1)+wgts (strs r):=rfl
  rw [e]; simp only [List.length_cons]; omega
theorem wgts_lks:∀ (l:List Lk),l.length≤wgts (lks l)
 | []=>Nat.zero_le _
 | x::r=>by
  have h:=wgts_lks r
  have e:wgts (lks (x::r))=(1+(1+(1+0)))+wgts (lks r):=rfl
  rw [e]; simp only [List.length_cons]; omega
theorem wgt_ms (m:Ms):m.ns.length≤wgt m.d∧m.ls.length≤wgt m.d:=by
 have e:wgt m.d=(wgts (strs m.ns)+1)+((wgts (lks m.ls)+1)+0):=rfl
 have h1:=wgts_strs m.ns
 have h2:=wgts_lks m.ls
 omega
theorem bool_fit {r:List CT} {ds:List Data} (h:Fits' (.bool::r) ds):∃ b t,ds=.bool b::t∧Fits' r t:=by
 simp only [Fits',Fit] at h
 obtain ⟨d,t,rfl,⟨b,rfl⟩,ht⟩:=h
 exact ⟨b,t,rfl,ht⟩
theorem u8_fit {r:List CT} {ds:List Data} (h:Fits' (.int .u8::r) ds):∃ (n:Int) (t:List Data),ds=.int .u8 n::t∧(0≤n∧n≤255)∧Fits' r t:=by
 obtain ⟨n,t,rfl,hn,ht⟩:=int_fit h
 refine ⟨n,t,rfl,?_,ht⟩
 simp [Lit.wf] at hn
 have h1:IntKind.u8.min=0:=rfl
 have h2:IntKind.u8.max=255:=rfl
 omega
theorem u16_fit {r:List CT} {ds:List Data} (h:Fits' (.int .u16::r) ds):∃ (n:Int) (t:List Data),ds=.int .u16 n::t∧(0≤n∧n≤65535)∧Fits' r t:=by
 obtain ⟨n,t,rfl,hn,ht⟩:=int_fit h
 refine ⟨n,t,rfl,?_,ht⟩
 simp [Lit.wf] at hn
 have h1:IntKind.u16.min=0:=rfl
 have h2:IntKind.u16.max=65535:=rfl
 omega
theorem u32_fit {r:List CT} {ds:List Data} (h:Fits' (.int .u32::r) ds):∃ (n:Int) (t:List Data),ds=.int .u32 n::t∧(0≤n∧n≤4294967295)∧Fits' r t:=by
 obtain ⟨n,t,rfl,hn,ht⟩:=int_fit h
 refine ⟨n,t,rfl,?_,ht⟩
 simp [Lit.wf] at hn
 have h1:IntKind.u32.min=0:=rfl
 have h2:IntKind.u32.max=4294967295:=rfl
 omega
theorem hrs_fit:∀ {es:List Data},(∀ e∈es,∃ ds,e=.agg ds∧Fits' [.bool,.bool,.bool,.bool,.bool,.bool,.bool,.int .i64,.int .i64] ds)→∃ l:List L.Hr,es=L.hrs l
 | [],_=>⟨[],rfl⟩
 | e::r,h=>by
  obtain ⟨ds,rfl,hd⟩:=h e List.mem_cons_self
  obtain ⟨d0,t0,rfl,h0⟩:=bool_fit hd
  obtain ⟨d1,t1,rfl,h1⟩:=bool_fit h0
  obtain ⟨d2,t2,rfl,h2⟩:=bool_fit h1
  obtain ⟨d3,t3,rfl,h3⟩:=bool_fit h2
  obtain ⟨d4,t4,rfl,h4⟩:=bool_fit h3
  obtain ⟨d5,t5,rfl,h5⟩:=bool_fit h4
  obtain ⟨d6,t6,rfl,h6⟩:=bool_fit h5
  obtain ⟨f,t7,rfl,_,h7⟩:=i64_fit h6
  obtain ⟨t,t8,rfl,_,h8⟩:=i64_fit h7
  obtain rfl:=fits_nil h8
  obtain ⟨l,rfl⟩:=hrs_fit (es:=r) fun x hx=>h x (List.mem_cons_of_mem _ hx)
  exact ⟨⟨d0,d1,d2,d3,d4,d5,d6,f,t⟩::l,rfl⟩
theorem hrl_fit {r:List CT} {ds:List Data} (h:Fits' (.sl true [.bool,.bool,.bool,.bool,.bool,.bool,.bool,.int .i64,.int .i64]::r) ds):∃ (l:List L.Hr) (t:List Data),ds=.slice 9 (L.hrs l)::t∧Fits' r t:=by
 simp only [Fits'] at h
 obtain ⟨d,t,rfl,hd,ht⟩:=h
 simp only [Fit] at hd
 obtain ⟨es,rfl,he⟩:=hd
 obtain ⟨l,rfl⟩:=hrs_fit (es:=es) fun e h=>by
  obtain ⟨ds,h1,h2⟩:=he e h
  exact ⟨ds,h1,by simpa only [Fits'] using h2⟩
 exact ⟨l,t,rfl,ht⟩
theorem wgts_hrs:∀ (l:List L.Hr),l.length≤wgts (L.hrs l)
 | []=>Nat.zero_le _
 | x::r=>by
  have h:=wgts_hrs r
  have e:wgts (L.hrs (x::r))=(1+(1+(1+(1+(1+(1+(1+(1+(1+0)))))))))+wgts (L.hrs r):=rfl
  rw [e]; simp only [List.length_cons]; omega
theorem lo8_fit:∀ {es:List Data},(∀ e∈es,∃ ds,e=.agg ds∧Fits' [.int .u8,.int .u8] ds)→∃ l:List (Int × Int),es=lo8 l∧∀ x∈l,(0≤x.1∧x.1≤255)∧0≤x.2∧x.2≤255
 | [],_=>⟨[],rfl,fun _ h=>by cases h⟩
 | e::r,h=>by
  obtain ⟨ds,rfl,hd⟩:=h e List.mem_cons_self
  obtain ⟨a,t1,rfl,ha,h1⟩:=u8_fit hd
  obtain ⟨b,t2,rfl,hb,h2⟩:=u8_fit h1
  obtain rfl:=fits_nil h2
  obtain ⟨l,rfl,hl⟩:=lo8_fit (es:=r) fun x hx=>h x (List.mem_cons_of_mem _ hx)
  exact ⟨(a,b)::l,rfl,fun p hp=>by
   rcases List.mem_cons.1 hp with rfl | hp
   ·exact ⟨ha,hb⟩
   ·exact hl p hp⟩
theorem lo8l_fit {r:List CT} {ds:List Data} (h:Fits' (.sl true [.int .u8,.int .u8]::r) ds):∃ (l:List (Int × Int)) (t:List Data),ds=.slice 2 (lo8 l)::t∧(∀ x∈l,(0≤x.1∧x.1≤255)∧0≤x.2∧x.2≤255)∧Fits' r t:=by
 simp only [Fits'] at h
 obtain ⟨d,t,rfl,hd,ht⟩:=h
 simp only [Fit] at hd
 obtain ⟨es,rfl,he⟩:=hd
 obtain ⟨l,rfl,hl⟩:=lo8_fit (es:=es) fun e h=>by
  obtain ⟨ds,h1,h2⟩:=he e h
  exact ⟨ds,h1,by simpa only [Fits'] using h2⟩
 exact ⟨l,t,rfl,hl,ht⟩
end Vc
