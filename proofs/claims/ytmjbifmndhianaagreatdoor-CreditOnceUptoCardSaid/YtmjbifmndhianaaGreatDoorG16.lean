import Derived.Test.YtmjbifmndhianaaGreatDoorG15
import Derived.Test.YtmjbifmndhianaaGreatDoorG14
import Derived.Test.YtmjbifmndhianaaGreatDoorG07
import Derived.Sort.OwnSortedInts
import Derived.Lib.SlicesCompact
import Derived.Test.YtmjbifmndhianaaGreatDoorG12
set_option linter.unusedSectionVars false
set_option linter.unusedVariables false
set_option linter.unusedSimpArgs false
set_option maxRecDepth 10000
set_option maxHeartbeats 4000000
namespace Vc
open Go Go.Proofs
def jr143:AFun:=⟨15,1,[.cell 2 4 true],
 (.seq
 (.reg [0] [⟨some 2,.alloc 0 [(.d (.int .u8 0)),(.d (.int .u8 0)),(.d (.int .u8 0)),(.d (.int .u8 0))],none⟩])
 (.seq
  (.reg [] [⟨some 3,.mov (.tmp 0),none⟩,
   ⟨some 4,.shf .shr .i64 (.tmp 3) (.cst (.d (.int .u64 24))),none⟩,
   ⟨some 5,.conv .u8 (.tmp 4),none⟩,
   ⟨some 6,.mov (.tmp 0),none⟩,
   ⟨some 7,.shf .shr .i64 (.tmp 6) (.cst (.d (.int .u64 16))),none⟩,
   ⟨some 8,.conv .u8 (.tmp 7),none⟩,
   ⟨some 9,.mov (.tmp 0),none⟩,
   ⟨some 10,.shf .shr .i64 (.tmp 9) (.cst (.d (.int .u64 8))),none⟩,
   ⟨some 11,.conv .u8 (.tmp 10),none⟩,
   ⟨some 12,.mov (.tmp 0),none⟩,
   ⟨some 13,.conv .u8 (.tmp 12),none⟩,
   ⟨some 14,.build [(.d (.int .u8 0)),(.d (.int .u8 0)),(.d (.int .u8 0)),(.d (.int .u8 0))] [(0,1,(.tmp 5)),(1,1,(.tmp 8)),(2,1,(.tmp 11)),(3,1,(.tmp 13))],none⟩,
   ⟨none,.st 4 (.tmp 2) (.tmp 14),none⟩])
  .ret))⟩
def jr108:AFun:=⟨17,1,[.tmp 2],
 (.seq
 (.reg [0] [⟨some 1,.cbx 0 4 (.tmp 0),none⟩,
  ⟨some 2,.mov (.cst (.d (.int .i64 0))),none⟩])
 (.seq
  (.reg [] [⟨some 3,.mov (.cst (.d (.int .i64 0))),none⟩])
  (.seq
  (.seq
   (.reg [] [⟨some 5,.mov (.cst (.d (.int .i64 0))),none⟩])
   (.post [3] [0]
   (.block 0
    (.keep [1,3,5] [0]
    (.loop
     (.post [1,3,5] []
     (.seq
      (.reg [] [⟨some 6,.cmp .lss (.tmp 5) (.cst (.d (.int .i64 4))),none⟩])
      (.seq
      (.cond (.tmp 6)
       .skip
       (.exit 0))
      (.seq
       (.block 1
       (.seq
        (.reg [] [⟨some 7,.mov (.tmp 5),none⟩,
         ⟨some 4,.mov (.tmp 7),none⟩])
        (.reg [] [⟨some 8,.mov (.tmp 3),none⟩,
         ⟨some 9,.shf .shl .i64 (.tmp 8) (.cst (.d (.int .u64 8))),none⟩,
         ⟨some 10,.mov (.tmp 4),none⟩,
         ⟨some 11,.ixp 4 1 (.tmp 1) (.tmp 10),none⟩,
         ⟨some 12,.ld false 1 (.tmp 11),none⟩,
         ⟨some 13,.conv .i64 (.tmp 12),none⟩,
         ⟨some 14,.bit .or .i64 (.tmp 9) (.tmp 13),none⟩,
         ⟨some 3,.mov (.tmp 14),none⟩])))
       (.reg [] [⟨some 15,.arith .add .i64 (.tmp 5) (.cst (.d (.int .i64 1))),none⟩,
        ⟨some 5,.mov (.tmp 15),none⟩]))))))))))
  (.seq
   (.reg [] [⟨some 16,.mov (.tmp 3),none⟩,
    ⟨some 2,.mov (.tmp 16),none⟩])
   .ret))))⟩
theorem wrap8 {x:Int} (h:0≤x∧x≤255):IntKind.wrap .u8 x=x:=by
 simp [IntKind.wrap,IntKind.bits,IntKind.signed]
 omega
theorem wrap8m (x:Int):IntKind.wrap .u8 x=x % 256:=by
 simp [IntKind.wrap,IntKind.bits,IntKind.signed]
theorem shr_f (n b m:Int) (hn:0≤n) (hb:0≤b) (hm:(2:Int) ^ (min b.toNat IntKind.i64.bits)=m):IntKind.i64=IntKind.i64∧shfF .shr .i64 n b=some (n / m):=by
 refine ⟨rfl,?_⟩
 simp only [shfF]
 rw [if_neg (by omega),hm,Int.fdiv_eq_ediv_of_nonneg]
 rw [← hm]
 exact Int.le_of_lt (Int.pow_pos (by decide))
def o4 (n:Int):List Int:=[n / 16777216 % 256,n / 65536 % 256,n / 256 % 256,n % 256]
theorem c143 (n:Int) (h:0≤n∧n≤1000000000):CallDet Tryz.prog 143 [.d (.int .i64 n)] [.agg [.int .u8 (n / 16777216 % 256),.int .u8 (n / 65536 % 256),.int .u8 (n / 256 % 256),.int .u8 (n % 256)]]:=by
 have e24:=shr_f n 24 16777216 h.1 (by decide) (by decide)
 have e16:=shr_f n 16 65536 h.1 (by decide) (by decide)
 have e8:=shr_f n 8 256 h.1 (by decide) (by decide)
 have fin:resV [.agg [.int .u8 (IntKind.wrap .u8 (n / 16777216)),.int .u8 (IntKind.wrap .u8 (n / 65536)),.int .u8 (IntKind.wrap .u8 (n / 256)),.int .u8 (IntKind.wrap .u8 n)]]=resV [.agg [.int .u8 (n / 16777216 % 256),.int .u8 (n / 65536 % 256),.int .u8 (n / 256 % 256),.int .u8 (n % 256)]]:=by
  rw [wrap8m,wrap8m,wrap8m,wrap8m]
 refine call_of_vc (x:=jr143) (by kernel_rfl) rfl ?_
 refine ca e24 ?_
 refine ca rfl ?_
 refine ca e16 ?_
 refine ca rfl ?_
 refine ca e8 ?_
 refine ca rfl ?_
 refine ca rfl ?_
 assumption
 all_goals exact fin
end Vc
set_option maxRecDepth 10000
set_option maxHeartbeats 4000000
namespace Vc
open Go Go.Proofs
def jr107:AFun:=⟨14,4,[.tmp 2],
 (.seq
 (.reg [0] [⟨some 1,.cbx 0 10 (.tmp 0),none⟩,
  ⟨some 2,.mov (.cst (.nils 1)),none⟩])
 (.seq
  (.regd [1,2] [⟨some 5,.fad 0 (.tmp 1),none⟩,
   ⟨some 6,.ld false 1 (.tmp 5),none⟩,
   ⟨some 7,.call 143 [(.tmp 6)],none⟩,
   ⟨some 8,.fad 1 (.tmp 1),none⟩,
   ⟨some 9,.ld false 1 (.tmp 8),none⟩,
   ⟨some 10,.call 143 [(.tmp 9)],none⟩,
   ⟨some 3,.alloc 1 [(.d (.int .u8 0)),(.d (.int .u8 0)),(.d (.int .u8 0)),(.d (.int .u8 0))],none⟩,
   ⟨some 4,.alloc 2 [(.d (.int .u8 0)),(.d (.int .u8 0)),(.d (.int .u8 0)),(.d (.int .u8 0))],none⟩,
   ⟨none,.st 4 (.tmp 3) (.tmp 7),none⟩,
   ⟨none,.st 4 (.tmp 4) (.tmp 10),none⟩] [(0,3),(1,3),(2,3),(0,4),(1,4),(2,4),(0,6),(1,6),(2,6),(3,6),(4,6),(5,6),(0,7),(1,7),(2,7),(3,7),(4,7),(5,7),(6,7)])
  (.seq
  (.regd [3] [⟨some 11,.sla 4 (.tmp 3) none none,none⟩,
   ⟨some 12,.sla 4 (.tmp 4) none none,none⟩,
   ⟨some 13,.app 3 5 1 1 (.tmp 11) (.tmp 12),none⟩,
   ⟨some 2,.mov (.tmp 13),none⟩] [(0,1)])
  .ret)))⟩
def jr106:AFun:=⟨14,3,[.cell 4 10 true],
 (.seq
 (.reg [0,1,2] [⟨some 2,.box 0 10 (.tmp 0),none⟩,
  ⟨some 3,.cbx 1 8 (.tmp 1),none⟩,
  ⟨some 4,.alloc 2 [(.d (.int .i64 0)),(.d (.int .i64 0)),(.d (.int .u8 0)),(.d (.int .u8 0)),(.d (.int .u8 0)),(.d (.int .u8 0)),(.d (.int .u8 0)),(.d (.int .u8 0)),(.d (.int .u8 0)),(.d (.int .u8 0))],none⟩])
 (.seq
  (.regd [] [⟨some 6,.ld true 8 (.tmp 3),none⟩,
   ⟨some 7,.ld true 10 (.tmp 2),none⟩,
   ⟨some 8,.call 107 [(.tmp 7)],none⟩,
   ⟨some 9,.call 142 [(.tmp 6),(.tmp 8)],none⟩,
   ⟨some 5,.mov (.tmp 9),none⟩,
   ⟨some 10,.ext 0 (.tmp 5),none⟩,
   ⟨some 11,.ext 1 (.tmp 5),none⟩,
   ⟨some 12,.fad 2 (.tmp 2),none⟩,
   ⟨none,.st 8 (.tmp 12) (.tmp 10),none⟩] [(0,1),(0,2),(5,6),(6,7),(6,8)])
  (.seq
  (.reg [] [⟨some 13,.ld true 10 (.tmp 2),none⟩,
   ⟨none,.st 10 (.tmp 4) (.tmp 13),none⟩])
  .ret)))⟩
def jr99:AFun:=⟨11,2,[.tmp 2],
 (.seq
 (.reg [0] [⟨some 1,.cbx 0 10 (.tmp 0),none⟩,
  ⟨some 2,.mov (.cst (.d (.int .i64 0))),none⟩])
 (.seq
  (.regd [1] [⟨some 3,.fad 0 (.tmp 1),none⟩,
   ⟨some 4,.ld false 1 (.tmp 3),none⟩,
   ⟨some 5,.call 91 [(.tmp 4),(.cst (.d (.int .i64 1))),(.cst (.d (.int .i64 999999999)))],none⟩,
   ⟨some 6,.fad 1 (.tmp 1),none⟩,
   ⟨some 7,.ld false 1 (.tmp 6),none⟩,
   ⟨some 8,.call 91 [(.tmp 7),(.cst (.d (.int .i64 1))),(.cst (.d (.int .i64 100000000)))],none⟩,
   ⟨some 9,.bsl 1 30 1 2 [(.int .i64 0),(.int .i64 0)] [(0,(.tmp 5)),(1,(.tmp 8))],none⟩,
   ⟨some 10,.call 90 [(.tmp 9)],none⟩,
   ⟨some 2,.mov (.tmp 10),none⟩] [(0,3),(1,3),(2,3),(0,4),(1,4),(2,4)])
  .ret))⟩
def jr38:AFun:=⟨22,3,[.cell 6 10 true,.tmp 7],
 (.seq
 (.reg [0,1] [⟨some 3,.cbx 0 8 (.tmp 0),none⟩,
  ⟨some 6,.alloc 1 [(.d (.int .i64 0)),(.d (.int .i64 0)),(.d (.int .u8 0)),(.d (.int .u8 0)),(.d (.int .u8 0)),(.d (.int .u8 0)),(.d (.int .u8 0)),(.d (.int .u8 0)),(.d (.int .u8 0)),(.d (.int .u8 0))],none⟩,
  ⟨some 7,.mov (.cst (.d (.int .i64 0))),none⟩])
 (.seq
  (.reg [2] [⟨some 10,.mov (.tmp 1),none⟩,
   ⟨some 11,.mov (.tmp 2),none⟩,
   ⟨some 12,.build [(.d (.int .i64 0)),(.d (.int .i64 0)),(.d (.int .u8 0)),(.d (.int .u8 0)),(.d (.int .u8 0)),(.d (.int .u8 0)),(.d (.int .u8 0)),(.d (.int .u8 0)),(.d (.int .u8 0)),(.d (.int .u8 0))] [(0,1,(.tmp 10)),(1,1,(.tmp 11))],none⟩,
   ⟨some 8,.alloc 2 [(.d (.int .i64 0)),(.d (.int .i64 0)),(.d (.int .u8 0)),(.d (.int .u8 0)),(.d (.int .u8 0)),(.d (.int .u8 0)),(.d (.int .u8 0)),(.d (.int .u8 0)),(.d (.int .u8 0)),(.d (.int .u8 0))],none⟩,
   ⟨none,.st 10 (.tmp 8) (.tmp 12),none⟩])
  (.seq
  (.seq
   (.reg [] [⟨some 13,.ld true 10 (.tmp 8),none⟩,
    ⟨some 14,.call 99 [(.tmp 13)],none⟩,
    ⟨some 9,.mov (.tmp 14),none⟩])
   (.seq
   (.reg [] [⟨some 15,.mov (.tmp 9),none⟩,
    ⟨some 16,.cmp .neq (.tmp 15) (.cst (.d (.int .i64 0))),none⟩])
   (.cond (.tmp 16)
    (.seq
    (.reg [] [⟨some 17,.build [(.d (.int .i64 0)),(.d (.int .i64 0)),(.d (.int .u8 0)),(.d (.int .u8 0)),(.d (.int .u8 0)),(.d (.int .u8 0)),(.d (.int .u8 0)),(.d (.int .u8 0)),(.d (.int .u8 0)),(.d (.int .u8 0))] [],none⟩,
     ⟨some 18,.mov (.tmp 9),none⟩,
     ⟨none,.st 10 (.tmp 6) (.tmp 17),none⟩,
     ⟨some 7,.mov (.tmp 18),none⟩])
    .ret)
    .skip)))
  (.seq
   (.reg [] [⟨some 19,.ld true 10 (.tmp 8),none⟩,
    ⟨some 20,.ld true 8 (.tmp 3),none⟩,
    ⟨some 21,.call 106 [(.tmp 19),(.tmp 20)],none⟩,
    ⟨none,.st 10 (.tmp 6) (.tmp 21),none⟩,
    ⟨some 7,.mov (.cst (.d (.int .i64 0))),none⟩])
   .ret))))⟩
theorem o4_b {n m:Int}:∀ b∈o4 n++o4 m,0≤b∧b≤255:=by
 intro b hb
 simp only [o4,List.cons_append,List.nil_append,List.mem_cons,List.not_mem_nil,or_false] at hb
 rcases hb with rfl | rfl | rfl | rfl | rfl | rfl | rfl | rfl <;> omega
theorem c107 (n m:Int) (q:Ky) (h:0≤n∧n≤1000000000) (h2:0≤m∧m≤1000000000):CallDet Tryz.prog 107 [.d (.agg [.int .i64 n,.int .i64 m,.int .u8 q.a,.int .u8 q.b,.int .u8 q.c,.int .u8 q.d,.int .u8 q.e,.int .u8 q.f,.int .u8 q.g,.int .u8 q.h])] [.slice 1 (bys (o4 n++o4 m))]:=by
 have c143_1:=c143 n h
 have c143_2:=c143 m h2
 refine call_of_vc (x:=jr107) (by kernel_rfl) rfl ?_
 refine ca c143_1 ?_
 refine ca c143_2 ?_
 refine an ?_ ?_
 refine an ?_ ?_
 exact rfl
 refine an ?_ ?_
 (show (0:Nat) < (4:Nat); omega)
 exact rfl
 refine an ?_ ?_
 refine an ?_ ?_
 exact rfl
 refine an ?_ ?_
 (show (0:Nat) < (4:Nat); omega)
 exact rfl
 refine sd ?_
 refine sd ?_
 refine an ?_ ?_
 refine an ?_ ?_
 exact rfl
 refine an ?_ ?_
 exact rfl
 refine an ?_ ?_
 (show (0:Nat) < (1:Nat)+(1:Nat)+(1:Nat)+(1:Nat); omega)
 refine an ?_ ?_
 (show ((1:Nat)+(1:Nat)+(1:Nat)+(1:Nat)+((1:Nat)+(1:Nat)+(1:Nat)+(1:Nat))) * (1:Nat)≤(2:Nat) ^ (47:Nat); omega)
 (show (1:Nat)+(1:Nat)+(1:Nat)+(1:Nat)+((1:Nat)+(1:Nat)+(1:Nat)+(1:Nat))≤(2:Nat) ^ (47:Nat); omega)
 refine sd ?_
 exact rfl
theorem c106 (n m:Int) (q k:Ky) (hk:k.ok) (h:0≤n∧n≤1000000000) (h2:0≤m∧m≤1000000000):CallDet Tryz.prog 106 [.d (.agg [.int .i64 n,.int .i64 m,.int .u8 q.a,.int .u8 q.b,.int .u8 q.c,.int .u8 q.d,.int .u8 q.e,.int .u8 q.f,.int .u8 q.g,.int .u8 q.h]),.d (.agg [.int .u8 k.a,.int .u8 k.b,.int .u8 k.c,.int .u8 k.d,.int .u8 k.e,.int .u8 k.f,.int .u8 k.g,.int .u8 k.h])] [.agg [.int .i64 n,.int .i64 m,.int .u8 (sealK k (o4 n++o4 m)).a,.int .u8 (sealK k (o4 n++o4 m)).b,.int .u8 (sealK k (o4 n++o4 m)).c,.int .u8 (sealK k (o4 n++o4 m)).d,.int .u8 (sealK k (o4 n++o4 m)).e,.int .u8 (sealK k (o4 n++o4 m)).f,.int .u8 (sealK k (o4 n++o4 m)).g,.int .u8 (sealK k (o4 n++o4 m)).h]]:=by
 have c107_:=c107 n m q h h2
 have c142_:=c142 k (o4 n++o4 m) hk o4_b (by simp [o4])
 refine call_of_vc (x:=jr106) (by kernel_rfl) rfl ?_
 refine ca c107_ ?_
 refine ca c142_ ?_
 exact rfl
def ckT (n m:Int):Int:=firstOf [within3 n 1 999999999,within3 m 1 100000000]
theorem c99 (n m:Int) (q:Ky):CallDet Tryz.prog 99 [.d (.agg [.int .i64 n,.int .i64 m,.int .u8 q.a,.int .u8 q.b,.int .u8 q.c,.int .u8 q.d,.int .u8 q.e,.int .u8 q.f,.int .u8 q.g,.int .u8 q.h])] [.int .i64 (ckT n m)]:=by
 have w1:=c91 n 1 999999999
 have w2:=c91 m 1 100000000
 have c90_:=c90 [within3 n 1 999999999,within3 m 1 100000000] (by simp)
 refine call_of_vc (x:=jr99) (by kernel_rfl) rfl ?_
 refine ca (c91 _ _ _) ?_
 refine ca (c91 _ _ _) ?_
 refine sd ?_
 refine sd ?_
 refine ca c90_ ?_
 exact rfl
theorem ckT_b {n m:Int} (h:ckT n m=0):(1≤n∧n≤999999999)∧1≤m∧m≤100000000 :=
 ⟨within_ok (firstOf_zero h _ (by simp)),within_ok (firstOf_zero h _ (by simp))⟩
theorem c38 (n m:Int) (k:Ky) (hk:k.ok):CallDet Tryz.prog 38 [.d (.agg [.int .u8 k.a,.int .u8 k.b,.int .u8 k.c,.int .u8 k.d,.int .u8 k.e,.int .u8 k.f,.int .u8 k.g,.int .u8 k.h]),.d (.int .i64 n),.d (.int .i64 m)] (bif ckT n m != 0 then [.agg [.int .i64 0,.int .i64 0,.int .u8 0,.int .u8 0,.int .u8 0,.int .u8 0,.int .u8 0,.int .u8 0,.int .u8 0,.int .u8 0],.int .i64 (ckT n m)] else [.agg [.int .i64 n,.int .i64 m,.int .u8 (sealK k (o4 n++o4 m)).a,.int .u8 (sealK k (o4 n++o4 m)).b,.int .u8 (sealK k (o4 n++o4 m)).c,.int .u8 (sealK k (o4 n++o4 m)).d,.int .u8 (sealK k (o4 n++o4 m)).e,.int .u8 (sealK k (o4 n++o4 m)).f,.int .u8 (sealK k (o4 n++o4 m)).g,.int .u8 (sealK k (o4 n++o4 m)).h],.int .i64 0]):=by
 have c99_:=c99 n m ⟨0,0,0,0,0,0,0,0⟩
 by_cases h0:ckT n m=0
 ·obtain ⟨h1,h2⟩:=ckT_b h0
  have c106_:=c106 n m ⟨0,0,0,0,0,0,0,0⟩ k hk (by omega) (by omega)
  rw [h0] at c99_ ⊢
  refine call_of_vc (x:=jr38) (by kernel_rfl) rfl ?_
  refine ca c99_ ?_
  refine sd ?_
  refine ca c106_ ?_
  exact rfl
 ·rw [bne_t h0]
  refine call_of_vc (x:=jr38) (by kernel_rfl) rfl ?_
  refine ca c99_ ?_
  refine sd ?_
  refine b_ne (fun t1=>?_) (fun t1=>?_)
  exact rfl
  (exfalso; omega)
end Vc
set_option maxRecDepth 10000
set_option maxHeartbeats 4000000
namespace Vc
open Go Go.Proofs
def jr36:AFun:=⟨30,5,[.cell 4 22 true,.tmp 5],
 (.seq
 (.reg [0,1,2] [⟨some 2,.cbx 0 22 (.tmp 0),none⟩,
  ⟨some 3,.cbx 1 8 (.tmp 1),none⟩,
  ⟨some 4,.alloc 2 [(.d (.int .i64 0)),(.d (.int .i64 0)),(.d (.int .i64 0)),(.d (.int .i64 0)),(.d (.int .u8 0)),(.d (.int .u8 0)),(.d (.int .u8 0)),(.d (.int .u8 0)),(.d (.int .u8 0)),(.d (.int .u8 0)),(.d (.int .u8 0)),(.d (.int .u8 0)),(.d (.int .u8 0)),(.d (.int .u8 0)),(.d (.int .u8 0)),(.d (.int .u8 0)),(.d (.int .u8 0)),(.d (.int .u8 0)),(.d (.int .u8 0)),(.d (.int .u8 0)),(.d (.bool false)),(.nils 1)],none⟩,
  ⟨some 5,.mov (.cst (.d (.int .i64 0))),none⟩])
 (.seq
  (.seq
  (.regd [3] [⟨some 8,.ld true 22 (.tmp 2),none⟩,
   ⟨some 9,.call 25 [(.tmp 8)],none⟩,
   ⟨some 10,.fad 20 (.tmp 2),none⟩,
   ⟨some 11,.ld false 1 (.tmp 10),none⟩,
   ⟨some 12,.call 92 [(.tmp 11),(.cst (.d (.int .i64 22)))],none⟩,
   ⟨some 13,.ld true 8 (.tmp 3),none⟩,
   ⟨some 14,.fad 4 (.tmp 2),none⟩,
   ⟨some 15,.ld true 8 (.tmp 14),none⟩,
   ⟨some 16,.aeq false [0,0,0,0,0,0,0,0] (.tmp 13) (.tmp 15),none⟩,
   ⟨some 17,.call 92 [(.tmp 16),(.cst (.d (.int .i64 9)))],none⟩,
   ⟨some 18,.bsl 3 30 1 3 [(.int .i64 0),(.int .i64 0),(.int .i64 0)] [(0,(.tmp 9)),(1,(.tmp 12)),(2,(.tmp 17))],none⟩,
   ⟨some 19,.call 90 [(.tmp 18)],none⟩,
   ⟨some 6,.mov (.tmp 19),none⟩] [(0,2),(1,2),(0,3),(1,3),(0,5),(1,5),(2,5),(3,5),(4,5),(0,6),(1,6),(2,6),(3,6),(4,6),(5,6),(0,7),(1,7),(2,7),(3,7),(4,7),(5,7),(0,8),(1,8),(2,8),(3,8),(4,8)])
  (.seq
   (.reg [] [⟨some 20,.mov (.tmp 6),none⟩,
    ⟨some 21,.cmp .neq (.tmp 20) (.cst (.d (.int .i64 0))),none⟩])
   (.cond (.tmp 21)
   (.seq
    (.reg [] [⟨some 22,.build [(.d (.int .i64 0)),(.d (.int .i64 0)),(.d (.int .i64 0)),(.d (.int .i64 0)),(.d (.int .u8 0)),(.d (.int .u8 0)),(.d (.int .u8 0)),(.d (.int .u8 0)),(.d (.int .u8 0)),(.d (.int .u8 0)),(.d (.int .u8 0)),(.d (.int .u8 0)),(.d (.int .u8 0)),(.d (.int .u8 0)),(.d (.int .u8 0)),(.d (.int .u8 0)),(.d (.int .u8 0)),(.d (.int .u8 0)),(.d (.int .u8 0)),(.d (.int .u8 0)),(.d (.bool false)),(.nils 1)] [],none⟩,
     ⟨some 23,.mov (.tmp 6),none⟩,
     ⟨none,.st 22 (.tmp 4) (.tmp 22),none⟩,
     ⟨some 5,.mov (.tmp 23),none⟩])
    .ret)
   .skip)))
  (.seq
  (.reg [4] [⟨some 24,.ld true 22 (.tmp 2),none⟩,
   ⟨some 25,.call 93 [(.tmp 24)],none⟩,
   ⟨some 7,.alloc 4 [(.d (.int .i64 0)),(.d (.int .i64 0)),(.d (.int .i64 0)),(.d (.int .i64 0)),(.d (.int .u8 0)),(.d (.int .u8 0)),(.d (.int .u8 0)),(.d (.int .u8 0)),(.d (.int .u8 0)),(.d (.int .u8 0)),(.d (.int .u8 0)),(.d (.int .u8 0)),(.d (.int .u8 0)),(.d (.int .u8 0)),(.d (.int .u8 0)),(.d (.int .u8 0)),(.d (.int .u8 0)),(.d (.int .u8 0)),(.d (.int .u8 0)),(.d (.int .u8 0)),(.d (.bool false)),(.nils 1)],none⟩,
   ⟨none,.st 22 (.tmp 7) (.tmp 25),none⟩])
  (.seq
   (.reg [] [⟨some 26,.ld true 8 (.tmp 3),none⟩,
    ⟨some 27,.fad 12 (.tmp 7),none⟩,
    ⟨none,.st 8 (.tmp 27) (.tmp 26),none⟩,
    ⟨some 28,.fad 20 (.tmp 7),none⟩,
    ⟨none,.st 1 (.tmp 28) (.cst (.d (.bool true))),none⟩])
   (.seq
   (.reg [] [⟨some 29,.ld true 22 (.tmp 7),none⟩,
    ⟨none,.st 22 (.tmp 4) (.tmp 29),none⟩,
    ⟨some 5,.mov (.cst (.d (.int .i64 0))),none⟩])
   .ret)))))⟩
def jr37:AFun:=⟨27,4,[.cell 2 22 true,.tmp 3],
 (.seq
 (.reg [0,1] [⟨some 1,.cbx 0 22 (.tmp 0),none⟩,
  ⟨some 2,.alloc 1 [(.d (.int .i64 0)),(.d (.int .i64 0)),(.d (.int .i64 0)),(.d (.int .i64 0)),(.d (.int .u8 0)),(.d (.int .u8 0)),(.d (.int .u8 0)),(.d (.int .u8 0)),(.d (.int .u8 0)),(.d (.int .u8 0)),(.d (.int .u8 0)),(.d (.int .u8 0)),(.d (.int .u8 0)),(.d (.int .u8 0)),(.d (.int .u8 0)),(.d (.int .u8 0)),(.d (.int .u8 0)),(.d (.int .u8 0)),(.d (.int .u8 0)),(.d (.int .u8 0)),(.d (.bool false)),(.nils 1)],none⟩,
  ⟨some 3,.mov (.cst (.d (.int .i64 0))),none⟩])
 (.seq
  (.seq
  (.regd [2] [⟨some 6,.ld true 22 (.tmp 1),none⟩,
   ⟨some 7,.call 25 [(.tmp 6)],none⟩,
   ⟨some 8,.fad 20 (.tmp 1),none⟩,
   ⟨some 9,.ld false 1 (.tmp 8),none⟩,
   ⟨some 10,.not (.tmp 9),none⟩,
   ⟨some 11,.call 92 [(.tmp 10),(.cst (.d (.int .i64 22)))],none⟩,
   ⟨some 12,.bsl 2 30 1 2 [(.int .i64 0),(.int .i64 0)] [(0,(.tmp 7)),(1,(.tmp 11))],none⟩,
   ⟨some 13,.call 90 [(.tmp 12)],none⟩,
   ⟨some 4,.mov (.tmp 13),none⟩] [(0,2),(1,2),(0,3),(1,3),(0,4),(1,4)])
  (.seq
   (.reg [] [⟨some 14,.mov (.tmp 4),none⟩,
    ⟨some 15,.cmp .neq (.tmp 14) (.cst (.d (.int .i64 0))),none⟩])
   (.cond (.tmp 15)
   (.seq
    (.reg [] [⟨some 16,.build [(.d (.int .i64 0)),(.d (.int .i64 0)),(.d (.int .i64 0)),(.d (.int .i64 0)),(.d (.int .u8 0)),(.d (.int .u8 0)),(.d (.int .u8 0)),(.d (.int .u8 0)),(.d (.int .u8 0)),(.d (.int .u8 0)),(.d (.int .u8 0)),(.d (.int .u8 0)),(.d (.int .u8 0)),(.d (.int .u8 0)),(.d (.int .u8 0)),(.d (.int .u8 0)),(.d (.int .u8 0)),(.d (.int .u8 0)),(.d (.int .u8 0)),(.d (.int .u8 0)),(.d (.bool false)),(.nils 1)] [],none⟩,
     ⟨some 17,.mov (.tmp 4),none⟩,
     ⟨none,.st 22 (.tmp 2) (.tmp 16),none⟩,
     ⟨some 3,.mov (.tmp 17),none⟩])
    .ret)
   .skip)))
  (.seq
  (.reg [3] [⟨some 18,.ld true 22 (.tmp 1),none⟩,
   ⟨some 19,.call 93 [(.tmp 18)],none⟩,
   ⟨some 5,.alloc 3 [(.d (.int .i64 0)),(.d (.int .i64 0)),(.d (.int .i64 0)),(.d (.int .i64 0)),(.d (.int .u8 0)),(.d (.int .u8 0)),(.d (.int .u8 0)),(.d (.int .u8 0)),(.d (.int .u8 0)),(.d (.int .u8 0)),(.d (.int .u8 0)),(.d (.int .u8 0)),(.d (.int .u8 0)),(.d (.int .u8 0)),(.d (.int .u8 0)),(.d (.int .u8 0)),(.d (.int .u8 0)),(.d (.int .u8 0)),(.d (.int .u8 0)),(.d (.int .u8 0)),(.d (.bool false)),(.nils 1)],none⟩,
   ⟨none,.st 22 (.tmp 5) (.tmp 19),none⟩])
  (.seq
   (.reg [] [⟨some 20,.fad 12 (.tmp 1),none⟩,
    ⟨some 21,.ld true 8 (.tmp 20),none⟩,
    ⟨some 22,.build [(.d (.int .u8 0)),(.d (.int .u8 0)),(.d (.int .u8 0)),(.d (.int .u8 0)),(.d (.int .u8 0)),(.d (.int .u8 0)),(.d (.int .u8 0)),(.d (.int .u8 0))] [],none⟩,
    ⟨some 23,.fad 4 (.tmp 5),none⟩,
    ⟨none,.st 8 (.tmp 23) (.tmp 21),none⟩,
    ⟨some 24,.fad 12 (.tmp 5),none⟩,
    ⟨none,.st 8 (.tmp 24) (.tmp 22),none⟩,
    ⟨some 25,.fad 20 (.tmp 5),none⟩,
    ⟨none,.st 1 (.tmp 25) (.cst (.d (.bool false))),none⟩])
   (.seq
   (.reg [] [⟨some 26,.ld true 22 (.tmp 5),none⟩,
    ⟨none,.st 22 (.tmp 2) (.tmp 26),none⟩,
    ⟨some 3,.mov (.cst (.d (.int .i64 0))),none⟩])
   .ret)))))⟩
def keq (q k:Ky):Bool:=(q.a==k.a&&(q.b==k.b&&(q.c==k.c&&(q.d==k.d&&(q.e==k.e&&(q.f==k.f&&(q.g==k.g&&(q.h==k.h&&true))))))))
end Vc
set_option maxRecDepth 10000
set_option maxHeartbeats 4000000
namespace Vc
open Go Go.Proofs
def jr39:AFun:=⟨18,3,[.cell 2 16 true,.tmp 3],
 (.seq
 (.reg [0,1] [⟨some 1,.cbx 0 10 (.tmp 0),none⟩,
  ⟨some 2,.alloc 1 [(.d (.int .u8 0)),(.d (.int .u8 0)),(.d (.int .u8 0)),(.d (.int .u8 0)),(.d (.int .u8 0)),(.d (.int .u8 0)),(.d (.int .u8 0)),(.d (.int .u8 0)),(.d (.int .u8 0)),(.d (.int .u8 0)),(.d (.int .u8 0)),(.d (.int .u8 0)),(.d (.int .u8 0)),(.d (.int .u8 0)),(.d (.int .u8 0)),(.d (.int .u8 0))],none⟩,
  ⟨some 3,.mov (.cst (.d (.int .i64 0))),none⟩])
 (.seq
  (.seq
  (.reg [] [⟨some 5,.ld true 10 (.tmp 1),none⟩,
   ⟨some 6,.call 99 [(.tmp 5)],none⟩,
   ⟨some 4,.mov (.tmp 6),none⟩])
  (.seq
   (.reg [] [⟨some 7,.mov (.tmp 4),none⟩,
    ⟨some 8,.cmp .neq (.tmp 7) (.cst (.d (.int .i64 0))),none⟩])
   (.cond (.tmp 8)
   (.seq
    (.reg [] [⟨some 9,.build [(.d (.int .u8 0)),(.d (.int .u8 0)),(.d (.int .u8 0)),(.d (.int .u8 0)),(.d (.int .u8 0)),(.d (.int .u8 0)),(.d (.int .u8 0)),(.d (.int .u8 0)),(.d (.int .u8 0)),(.d (.int .u8 0)),(.d (.int .u8 0)),(.d (.int .u8 0)),(.d (.int .u8 0)),(.d (.int .u8 0)),(.d (.int .u8 0)),(.d (.int .u8 0))] [],none⟩,
     ⟨some 10,.mov (.tmp 4),none⟩,
     ⟨none,.st 16 (.tmp 2) (.tmp 9),none⟩,
     ⟨some 3,.mov (.tmp 10),none⟩])
    .ret)
   .skip)))
  (.seq
  (.regd [2] [⟨some 11,.ld true 10 (.tmp 1),none⟩,
   ⟨some 12,.calln 2 5 1 107 [(.tmp 11)],none⟩,
   ⟨some 13,.fad 2 (.tmp 1),none⟩,
   ⟨some 14,.sla 8 (.tmp 13) none none,none⟩,
   ⟨some 15,.app 2 5 1 1 (.tmp 12) (.tmp 14),none⟩,
   ⟨some 16,.s2a 16 (.tmp 15),none⟩,
   ⟨some 17,.ld true 16 (.tmp 16),none⟩,
   ⟨none,.st 16 (.tmp 2) (.tmp 17),none⟩,
   ⟨some 3,.mov (.cst (.d (.int .i64 0))),none⟩] [(0,2),(1,2),(0,3),(1,3)])
  .ret)))⟩
theorem c107r (n m:Int) (q:Ky) (h:0≤n∧n≤1000000000) (h2:0≤m∧m≤1000000000):CallRow Tryz.prog 107 [.d (.agg [.int .i64 n,.int .i64 m,.int .u8 q.a,.int .u8 q.b,.int .u8 q.c,.int .u8 q.d,.int .u8 q.e,.int .u8 q.f,.int .u8 q.g,.int .u8 q.h])] 5 1 (bys (o4 n++o4 m)):=by
 have c143_1:=c143 n h
 have c143_2:=c143 m h2
 refine callRow_of_vc (x:=jr107) (by kernel_rfl) rfl ?_
 refine ca c143_1 ?_
 refine ca c143_2 ?_
 refine an ?_ ?_
 refine an ?_ ?_
 exact rfl
 refine an ?_ ?_
 (show (0:Nat) < (4:Nat); omega)
 exact rfl
 refine an ?_ ?_
 refine an ?_ ?_
 exact rfl
 refine an ?_ ?_
 (show (0:Nat) < (4:Nat); omega)
 exact rfl
 refine sd ?_
 refine sd ?_
 refine an ?_ ?_
 refine an ?_ ?_
 exact rfl
 refine an ?_ ?_
 exact rfl
 refine an ?_ ?_
 (show (0:Nat) < (1:Nat)+(1:Nat)+(1:Nat)+(1:Nat); omega)
 refine an ?_ ?_
 (show ((1:Nat)+(1:Nat)+(1:Nat)+(1:Nat)+((1:Nat)+(1:Nat)+(1:Nat)+(1:Nat))) * (1:Nat)≤(2:Nat) ^ (47:Nat); omega)
 (show (1:Nat)+(1:Nat)+(1:Nat)+(1:Nat)+((1:Nat)+(1:Nat)+(1:Nat)+(1:Nat))≤(2:Nat) ^ (47:Nat); omega)
 rotate_left
 exact .inl ⟨3,⟨rfl,rfl⟩,rfl⟩
theorem c39 (n m:Int) (q:Ky):CallDet Tryz.prog 39 [.d (.agg [.int .i64 n,.int .i64 m,.int .u8 q.a,.int .u8 q.b,.int .u8 q.c,.int .u8 q.d,.int .u8 q.e,.int .u8 q.f,.int .u8 q.g,.int .u8 q.h])] (bif ckT n m != 0 then [.agg [.int .u8 0,.int .u8 0,.int .u8 0,.int .u8 0,.int .u8 0,.int .u8 0,.int .u8 0,.int .u8 0,.int .u8 0,.int .u8 0,.int .u8 0,.int .u8 0,.int .u8 0,.int .u8 0,.int .u8 0,.int .u8 0],.int .i64 (ckT n m)] else [.agg [.int .u8 (n / 16777216 % 256),.int .u8 (n / 65536 % 256),.int .u8 (n / 256 % 256),.int .u8 (n % 256),.int .u8 (m / 16777216 % 256),.int .u8 (m / 65536 % 256),.int .u8 (m / 256 % 256),.int .u8 (m % 256),.int .u8 q.a,.int .u8 q.b,.int .u8 q.c,.int .u8 q.d,.int .u8 q.e,.int .u8 q.f,.int .u8 q.g,.int .u8 q.h],.int .i64 0]):=by
 have c99_:=c99 n m q
 by_cases h0:ckT n m=0
 ·obtain ⟨h1,h2⟩:=ckT_b h0
  have c107r_:=c107r n m q (by omega) (by omega)
  rw [h0] at c99_ ⊢
  refine call_of_vc (x:=jr39) (by kernel_rfl) rfl ?_
  refine ca c99_ ?_
  refine sd ?_
  refine ca (c107r_) ?_
  refine an ?_ ?_
  refine an ?_ ?_
  (show (0:Int)≤(0:Int); omega)
  refine an ?_ ?_
  (show (0:Int)≤(↑(8:Nat):Int); omega)
  refine an ?_ ?_
  (show (↑(8:Nat):Int)≤(↑(8:Nat):Int); omega)
  (show (0:Nat)+(2:Nat)+(8:Nat)≤(1:Nat)+(1:Nat)+(1:Nat)+(1:Nat)+(1:Nat)+(1:Nat)+(1:Nat)+(1:Nat)+(1:Nat)+(1:Nat); omega)
  refine sd ?_
  refine an ?_ ?_
  refine an ?_ ?_
  exact rfl
  refine an ?_ ?_
  exact rfl
  refine an ?_ ?_
  exact rfl
  refine an ?_ ?_
  (show ((1:Nat)+(1:Nat)+(1:Nat)+(1:Nat)+(1:Nat)+(1:Nat)+(1:Nat)+(1:Nat)+((1:Nat)+(1:Nat)+(1:Nat)+(1:Nat)+(1:Nat)+(1:Nat)+(1:Nat)+(1:Nat))) * (1:Nat)≤(2:Nat) ^ (47:Nat); omega)
  (show (1:Nat)+(1:Nat)+(1:Nat)+(1:Nat)+(1:Nat)+(1:Nat)+(1:Nat)+(1:Nat)+((1:Nat)+(1:Nat)+(1:Nat)+(1:Nat)+(1:Nat)+(1:Nat)+(1:Nat)+(1:Nat))≤(2:Nat) ^ (47:Nat); omega)
  refine sd ?_
  refine an ?_ ?_
  (show (16:Nat)≤(1:Nat)+(1:Nat)+(1:Nat)+(1:Nat)+(1:Nat)+(1:Nat)+(1:Nat)+(1:Nat)+(1:Nat)+(1:Nat)+(1:Nat)+(1:Nat)+(1:Nat)+(1:Nat)+(1:Nat)+(1:Nat); omega)
  exact rfl
 ·rw [bne_t h0]
  refine call_of_vc (x:=jr39) (by kernel_rfl) rfl ?_
  refine ca c99_ ?_
  refine sd ?_
  refine b_ne (fun t1=>?_) (fun t1=>?_)
  exact rfl
  (exfalso; omega)
end Vc
set_option maxRecDepth 10000
set_option maxHeartbeats 4000000
namespace Vc
open Go Go.Proofs
theorem wrap_i {b:Int} (h:0≤b∧b≤255):IntKind.wrap .i64 b=b:=IntWalk.i64_in _ ⟨by omega,by omega⟩
theorem shl_f (n:Int) (h:0≤n∧n≤16777215):IntKind.i64=IntKind.i64∧shfF .shl .i64 n 8=some (n * 256):=by
 refine ⟨rfl,?_⟩
 simp only [shfF]
 rw [if_neg (by decide),show (2:Int) ^ (min (Int.toNat 8) IntKind.i64.bits)=256 by decide,IntWalk.i64_in _ ⟨by omega,by omega⟩]
theorem or_f {a b:Int} (ha:0≤a∧a≤16777215) (hb:0≤b∧b≤255):IntKind.i64=IntKind.i64∧IntKind.i64=IntKind.i64∧bitF .or .i64 (a * 256) b=some (a * 256+b):=by
 refine ⟨rfl,rfl,?_⟩
 obtain ⟨x,rfl⟩:=Int.eq_ofNat_of_zero_le ha.1
 obtain ⟨y,rfl⟩:=Int.eq_ofNat_of_zero_le hb.1
 have h1:BitVec.ofInt 64 ((x:Int) * 256)=BitVec.ofNat 64 (x * 256):=by
  rw [show (x:Int) * 256=((x * 256:Nat):Int) by simp]; exact BitVec.ofInt_natCast 64 (x * 256)
 have h2:BitVec.ofInt 64 (y:Int)=BitVec.ofNat 64 y:=BitVec.ofInt_natCast 64 y
 have h3:x * 256 ||| y=x * 256+y:=by
  have:=Nat.shiftLeft_add_eq_or_of_lt (b:=y) (i:=8) (by omega) x
  rw [Nat.shiftLeft_eq] at this
  exact this.symm
 simp only [bitF]
 rw [show IntKind.i64.bits=64 from rfl,h1,h2,BitVec.toNat_or,BitVec.toNat_ofNat,BitVec.toNat_ofNat,Nat.mod_eq_of_lt (by omega),Nat.mod_eq_of_lt (by omega),h3,IntWalk.i64_in _ ⟨by omega,by omega⟩]
 simp
def nu (a b c d:Int):Nat→Int
 | 0=>0
 | 1=>0 * 256+a
 | 2=>(0 * 256+a) * 256+b
 | 3=>((0 * 256+a) * 256+b) * 256+c
 | _+4=>(((0 * 256+a) * 256+b) * 256+c) * 256+d
theorem nu_b (a b c d:Int) (q0:0≤a∧a≤255) (q1:0≤b∧b≤255) (q2:0≤c∧c≤255) (q3:0≤d∧d≤255):∀ j:Nat,j < 4→0≤nu a b c d j∧nu a b c d j≤16777215
 | 0,_=>⟨by simp [nu],by simp [nu]⟩
 | 1,_=>by simp only [nu]; omega
 | 2,_=>by simp only [nu]; omega
 | 3,_=>by simp only [nu]; omega
 | _+4,h=>absurd h (by omega)
theorem c108 (a b c d:Int) (q0:0≤a∧a≤255) (q1:0≤b∧b≤255) (q2:0≤c∧c≤255) (q3:0≤d∧d≤255):CallDet Tryz.prog 108 [.d (.agg [.int .u8 a,.int .u8 b,.int .u8 c,.int .u8 d])] [.int .i64 (nu a b c d 4)]:=by
 refine call_of_vc (x:=jr108) (by kernel_rfl) rfl ?_
 rotate_left
 refine loop_st (fun k:Nat=>⟨[(1,.ptr 0 0),(3,.d (.int .i64 (nu a b c d k))),(5,.d (.int .i64 ((k:Nat))))],[.cbox [.int .u8 a,.int .u8 b,.int .u8 c,.int .u8 d]]⟩) (fun k=>k≤4) (fun k=>4 - k) 0 rfl (Nat.zero_le _) ?_
 intro k hk
 have hk:k≤4:=hk
 dsimp only
 match k,hk with
 | 0,_ =>
  have e:=q0
  have hx:=nu_b a b c d q0 q1 q2 q3 0 (by decide)
  have e1:=shl_f (nu a b c d 0) hx
  have e2:=or_f (a:=nu a b c d 0) (b:=IntKind.wrap .i64 a) hx (wrap_b q0)
  have fin:∃ a':Nat,(a'≤4∧4 - a' < 4 - 0)∧(⟨[(1,.ptr 0 0),(3,.d (.int .i64 (nu a b c d 0 * 256+IntKind.wrap .i64 a))),(5,.d (.int .i64 (((0:Nat):Int)+1)))],[.cbox [.int .u8 a,.int .u8 b,.int .u8 c,.int .u8 d]]⟩:St)=⟨[(1,.ptr 0 0),(3,.d (.int .i64 (nu a b c d a'))),(5,.d (.int .i64 ((a':Nat))))],[.cbox [.int .u8 a,.int .u8 b,.int .u8 c,.int .u8 d]]⟩:=⟨1,⟨by decide,by decide⟩,by rw [show nu a b c d 0 * 256+IntKind.wrap .i64 a=nu a b c d 1 by rw [wrap_i q0]; rfl]; rfl⟩
  refine sd ?_
  refine ca e1 ?_
  refine an ?_ ?_
  refine an ?_ ?_
  (show (0:Int)≤(↑(0:Nat):Int); omega)
  (show (↑(0:Nat):Int) < (↑(4:Nat):Int); omega)
  refine ca rfl ?_
  rotate_left
  refine ca e2 ?_
  refine ar_add ?_ ?_
  refine an ?_ ?_
  (show (-9223372036854775808:Int)≤(↑(0:Nat):Int)+(1:Int); omega)
  (show (↑(0:Nat):Int)+(1:Int)≤(9223372036854775807:Int); omega)
  rotate_left
  all_goals exact fin
 | 1,_ =>
  have e:=q1
  have hx:=nu_b a b c d q0 q1 q2 q3 1 (by decide)
  have e1:=shl_f (nu a b c d 1) hx
  have e2:=or_f (a:=nu a b c d 1) (b:=IntKind.wrap .i64 b) hx (wrap_b q1)
  have fin:∃ a':Nat,(a'≤4∧4 - a' < 4 - 1)∧(⟨[(1,.ptr 0 0),(3,.d (.int .i64 (nu a b c d 1 * 256+IntKind.wrap .i64 b))),(5,.d (.int .i64 (((1:Nat):Int)+1)))],[.cbox [.int .u8 a,.int .u8 b,.int .u8 c,.int .u8 d]]⟩:St)=⟨[(1,.ptr 0 0),(3,.d (.int .i64 (nu a b c d a'))),(5,.d (.int .i64 ((a':Nat))))],[.cbox [.int .u8 a,.int .u8 b,.int .u8 c,.int .u8 d]]⟩:=⟨2,⟨by decide,by decide⟩,by rw [show nu a b c d 1 * 256+IntKind.wrap .i64 b=nu a b c d 2 by rw [wrap_i q1]; rfl]; rfl⟩
  refine sd ?_
  refine ca e1 ?_
  refine an ?_ ?_
  refine an ?_ ?_
  (show (0:Int)≤(↑(1:Nat):Int); omega)
  (show (↑(1:Nat):Int) < (↑(4:Nat):Int); omega)
  refine ca rfl ?_
  rotate_left
  refine ca e2 ?_
  refine ar_add ?_ ?_
  refine an ?_ ?_
  (show (-9223372036854775808:Int)≤(↑(1:Nat):Int)+(1:Int); omega)
  (show (↑(1:Nat):Int)+(1:Int)≤(9223372036854775807:Int); omega)
  rotate_left
  all_goals exact fin
 | 2,_ =>
  have e:=q2
  have hx:=nu_b a b c d q0 q1 q2 q3 2 (by decide)
  have e1:=shl_f (nu a b c d 2) hx
  have e2:=or_f (a:=nu a b c d 2) (b:=IntKind.wrap .i64 c) hx (wrap_b q2)
  have fin:∃ a':Nat,(a'≤4∧4 - a' < 4 - 2)∧(⟨[(1,.ptr 0 0),(3,.d (.int .i64 (nu a b c d 2 * 256+IntKind.wrap .i64 c))),(5,.d (.int .i64 (((2:Nat):Int)+1)))],[.cbox [.int .u8 a,.int .u8 b,.int .u8 c,.int .u8 d]]⟩:St)=⟨[(1,.ptr 0 0),(3,.d (.int .i64 (nu a b c d a'))),(5,.d (.int .i64 ((a':Nat))))],[.cbox [.int .u8 a,.int .u8 b,.int .u8 c,.int .u8 d]]⟩:=⟨3,⟨by decide,by decide⟩,by rw [show nu a b c d 2 * 256+IntKind.wrap .i64 c=nu a b c d 3 by rw [wrap_i q2]; rfl]; rfl⟩
  refine sd ?_
  refine ca e1 ?_
  refine an ?_ ?_
  refine an ?_ ?_
  (show (0:Int)≤(↑(2:Nat):Int); omega)
  (show (↑(2:Nat):Int) < (↑(4:Nat):Int); omega)
  refine ca rfl ?_
  rotate_left
  refine ca e2 ?_
  refine ar_add ?_ ?_
  refine an ?_ ?_
  (show (-9223372036854775808:Int)≤(↑(2:Nat):Int)+(1:Int); omega)
  (show (↑(2:Nat):Int)+(1:Int)≤(9223372036854775807:Int); omega)
  rotate_left
  all_goals exact fin
 | 3,_ =>
  have e:=q3
  have hx:=nu_b a b c d q0 q1 q2 q3 3 (by decide)
  have e1:=shl_f (nu a b c d 3) hx
  have e2:=or_f (a:=nu a b c d 3) (b:=IntKind.wrap .i64 d) hx (wrap_b q3)
  have fin:∃ a':Nat,(a'≤4∧4 - a' < 4 - 3)∧(⟨[(1,.ptr 0 0),(3,.d (.int .i64 (nu a b c d 3 * 256+IntKind.wrap .i64 d))),(5,.d (.int .i64 (((3:Nat):Int)+1)))],[.cbox [.int .u8 a,.int .u8 b,.int .u8 c,.int .u8 d]]⟩:St)=⟨[(1,.ptr 0 0),(3,.d (.int .i64 (nu a b c d a'))),(5,.d (.int .i64 ((a':Nat))))],[.cbox [.int .u8 a,.int .u8 b,.int .u8 c,.int .u8 d]]⟩:=⟨4,⟨by decide,by decide⟩,by rw [show nu a b c d 3 * 256+IntKind.wrap .i64 d=nu a b c d 4 by rw [wrap_i q3]; rfl]; rfl⟩
  refine sd ?_
  refine ca e1 ?_
  refine an ?_ ?_
  refine an ?_ ?_
  (show (0:Int)≤(↑(3:Nat):Int); omega)
  (show (↑(3:Nat):Int) < (↑(4:Nat):Int); omega)
  refine ca rfl ?_
  rotate_left
  refine ca e2 ?_
  refine ar_add ?_ ?_
  refine an ?_ ?_
  (show (-9223372036854775808:Int)≤(↑(3:Nat):Int)+(1:Int); omega)
  (show (↑(3:Nat):Int)+(1:Int)≤(9223372036854775807:Int); omega)
  rotate_left
  all_goals exact fin
 | 4,_ =>
  refine sd ?_
  exact rfl
 | _+5,h=>exact absurd h (by omega)
end Vc
set_option maxRecDepth 10000
set_option maxHeartbeats 4000000
namespace Vc
open Go Go.Proofs
def jr40:AFun:=⟨25,3,[.cell 2 10 true,.tmp 3],
 (.seq
 (.reg [0,1] [⟨some 1,.cbx 0 16 (.tmp 0),none⟩,
  ⟨some 2,.alloc 1 [(.d (.int .i64 0)),(.d (.int .i64 0)),(.d (.int .u8 0)),(.d (.int .u8 0)),(.d (.int .u8 0)),(.d (.int .u8 0)),(.d (.int .u8 0)),(.d (.int .u8 0)),(.d (.int .u8 0)),(.d (.int .u8 0))],none⟩,
  ⟨some 3,.mov (.cst (.d (.int .i64 0))),none⟩])
 (.seq
  (.regd [2] [⟨some 6,.sla 16 (.tmp 1) none (some (.cst (.d (.int .i64 4)))),none⟩,
   ⟨some 7,.s2a 4 (.tmp 6),none⟩,
   ⟨some 8,.ld true 4 (.tmp 7),none⟩,
   ⟨some 9,.call 108 [(.tmp 8)],none⟩,
   ⟨some 10,.sla 16 (.tmp 1) (some (.cst (.d (.int .i64 4)))) (some (.cst (.d (.int .i64 8)))),none⟩,
   ⟨some 11,.s2a 4 (.tmp 10),none⟩,
   ⟨some 12,.ld true 4 (.tmp 11),none⟩,
   ⟨some 13,.call 108 [(.tmp 12)],none⟩,
   ⟨some 14,.sla 16 (.tmp 1) (some (.cst (.d (.int .i64 8)))) none,none⟩,
   ⟨some 15,.s2a 8 (.tmp 14),none⟩,
   ⟨some 16,.ld true 8 (.tmp 15),none⟩,
   ⟨some 17,.build [(.d (.int .i64 0)),(.d (.int .i64 0)),(.d (.int .u8 0)),(.d (.int .u8 0)),(.d (.int .u8 0)),(.d (.int .u8 0)),(.d (.int .u8 0)),(.d (.int .u8 0)),(.d (.int .u8 0)),(.d (.int .u8 0))] [(0,1,(.tmp 9)),(1,1,(.tmp 13)),(2,8,(.tmp 16))],none⟩,
   ⟨some 4,.alloc 2 [(.d (.int .i64 0)),(.d (.int .i64 0)),(.d (.int .u8 0)),(.d (.int .u8 0)),(.d (.int .u8 0)),(.d (.int .u8 0)),(.d (.int .u8 0)),(.d (.int .u8 0)),(.d (.int .u8 0)),(.d (.int .u8 0))],none⟩,
   ⟨none,.st 10 (.tmp 4) (.tmp 17),none⟩] [(0,4),(1,4),(2,4),(3,4),(0,5),(1,5),(2,5),(3,5),(0,6),(1,6),(2,6),(3,6),(0,8),(1,8),(2,8),(3,8),(4,8),(5,8),(6,8),(7,8),(0,9),(1,9),(2,9),(3,9),(4,9),(5,9),(6,9),(7,9),(0,10),(1,10),(2,10),(3,10),(4,10),(5,10),(6,10),(7,10),(0,12),(1,12),(2,12),(3,12),(4,12),(5,12),(6,12),(7,12),(8,12),(9,12),(10,12),(11,12)])
  (.seq
  (.seq
   (.reg [] [⟨some 18,.ld true 10 (.tmp 4),none⟩,
    ⟨some 19,.call 99 [(.tmp 18)],none⟩,
    ⟨some 5,.mov (.tmp 19),none⟩])
   (.seq
   (.reg [] [⟨some 20,.mov (.tmp 5),none⟩,
    ⟨some 21,.cmp .neq (.tmp 20) (.cst (.d (.int .i64 0))),none⟩])
   (.cond (.tmp 21)
    (.seq
    (.reg [] [⟨some 22,.build [(.d (.int .i64 0)),(.d (.int .i64 0)),(.d (.int .u8 0)),(.d (.int .u8 0)),(.d (.int .u8 0)),(.d (.int .u8 0)),(.d (.int .u8 0)),(.d (.int .u8 0)),(.d (.int .u8 0)),(.d (.int .u8 0))] [],none⟩,
     ⟨some 23,.mov (.tmp 5),none⟩,
     ⟨none,.st 10 (.tmp 2) (.tmp 22),none⟩,
     ⟨some 3,.mov (.tmp 23),none⟩])
    .ret)
    .skip)))
  (.seq
   (.reg [] [⟨some 24,.ld true 10 (.tmp 4),none⟩,
    ⟨none,.st 10 (.tmp 2) (.tmp 24),none⟩,
    ⟨some 3,.mov (.cst (.d (.int .i64 0))),none⟩])
   .ret))))⟩
theorem c40 (p q:Ky) (hp:p.ok):CallDet Tryz.prog 40 [.d (.agg [.int .u8 p.a,.int .u8 p.b,.int .u8 p.c,.int .u8 p.d,.int .u8 p.e,.int .u8 p.f,.int .u8 p.g,.int .u8 p.h,.int .u8 q.a,.int .u8 q.b,.int .u8 q.c,.int .u8 q.d,.int .u8 q.e,.int .u8 q.f,.int .u8 q.g,.int .u8 q.h])] (bif ckT (nu p.a p.b p.c p.d 4) (nu p.e p.f p.g p.h 4) != 0 then [.agg [.int .i64 0,.int .i64 0,.int .u8 0,.int .u8 0,.int .u8 0,.int .u8 0,.int .u8 0,.int .u8 0,.int .u8 0,.int .u8 0],.int .i64 (ckT (nu p.a p.b p.c p.d 4) (nu p.e p.f p.g p.h 4))] else [.agg [.int .i64 (nu p.a p.b p.c p.d 4),.int .i64 (nu p.e p.f p.g p.h 4),.int .u8 q.a,.int .u8 q.b,.int .u8 q.c,.int .u8 q.d,.int .u8 q.e,.int .u8 q.f,.int .u8 q.g,.int .u8 q.h],.int .i64 0]):=by
 obtain ⟨q0,q1,q2,q3,q4,q5,q6,q7⟩:=hp
 have c108_1:=c108 p.a p.b p.c p.d q0 q1 q2 q3
 have c108_2:=c108 p.e p.f p.g p.h q4 q5 q6 q7
 generalize nu p.a p.b p.c p.d 4=n1 at *
 generalize nu p.e p.f p.g p.h 4=n2 at *
 have c99_:=c99 n1 n2 q
 by_cases h0:ckT n1 n2=0
 ·rw [h0] at c99_ ⊢
  refine call_of_vc (x:=jr40) (by kernel_rfl) rfl ?_
  refine an ?_ ?_
  refine an ?_ ?_
  (show (0:Int)≤(0:Int); omega)
  refine an ?_ ?_
  (show (0:Int)≤(4:Int); omega)
  refine an ?_ ?_
  (show (4:Int)≤(↑(16:Nat):Int); omega)
  (show (0:Nat)+(16:Nat)≤(1:Nat)+(1:Nat)+(1:Nat)+(1:Nat)+(1:Nat)+(1:Nat)+(1:Nat)+(1:Nat)+(1:Nat)+(1:Nat)+(1:Nat)+(1:Nat)+(1:Nat)+(1:Nat)+(1:Nat)+(1:Nat); omega)
  refine an ?_ ?_
  (show (4:Nat)≤(1:Nat)+(1:Nat)+(1:Nat)+(1:Nat); omega)
  refine ca c108_1 ?_
  refine an ?_ ?_
  refine an ?_ ?_
  (show (0:Int)≤(4:Int); omega)
  refine an ?_ ?_
  (show (4:Int)≤(8:Int); omega)
  refine an ?_ ?_
  (show (8:Int)≤(↑(16:Nat):Int); omega)
  (show (0:Nat)+(16:Nat)≤(1:Nat)+(1:Nat)+(1:Nat)+(1:Nat)+(1:Nat)+(1:Nat)+(1:Nat)+(1:Nat)+(1:Nat)+(1:Nat)+(1:Nat)+(1:Nat)+(1:Nat)+(1:Nat)+(1:Nat)+(1:Nat); omega)
  refine an ?_ ?_
  (show (4:Nat)≤(1:Nat)+(1:Nat)+(1:Nat)+(1:Nat); omega)
  refine ca c108_2 ?_
  refine an ?_ ?_
  refine an ?_ ?_
  (show (0:Int)≤(8:Int); omega)
  refine an ?_ ?_
  (show (8:Int)≤(↑(16:Nat):Int); omega)
  refine an ?_ ?_
  (show (↑(16:Nat):Int)≤(↑(16:Nat):Int); omega)
  (show (0:Nat)+(16:Nat)≤(1:Nat)+(1:Nat)+(1:Nat)+(1:Nat)+(1:Nat)+(1:Nat)+(1:Nat)+(1:Nat)+(1:Nat)+(1:Nat)+(1:Nat)+(1:Nat)+(1:Nat)+(1:Nat)+(1:Nat)+(1:Nat); omega)
  refine an ?_ ?_
  (show (8:Nat)≤(1:Nat)+(1:Nat)+(1:Nat)+(1:Nat)+(1:Nat)+(1:Nat)+(1:Nat)+(1:Nat); omega)
  refine ca c99_ ?_
  refine sd ?_
  exact rfl
 ·rw [bne_t h0]
  refine call_of_vc (x:=jr40) (by kernel_rfl) rfl ?_
  refine an ?_ ?_
  refine an ?_ ?_
  (show (0:Int)≤(0:Int); omega)
  refine an ?_ ?_
  (show (0:Int)≤(4:Int); omega)
  refine an ?_ ?_
  (show (4:Int)≤(↑(16:Nat):Int); omega)
  (show (0:Nat)+(16:Nat)≤(1:Nat)+(1:Nat)+(1:Nat)+(1:Nat)+(1:Nat)+(1:Nat)+(1:Nat)+(1:Nat)+(1:Nat)+(1:Nat)+(1:Nat)+(1:Nat)+(1:Nat)+(1:Nat)+(1:Nat)+(1:Nat); omega)
  refine an ?_ ?_
  (show (4:Nat)≤(1:Nat)+(1:Nat)+(1:Nat)+(1:Nat); omega)
  refine ca c108_1 ?_
  refine an ?_ ?_
  refine an ?_ ?_
  (show (0:Int)≤(4:Int); omega)
  refine an ?_ ?_
  (show (4:Int)≤(8:Int); omega)
  refine an ?_ ?_
  (show (8:Int)≤(↑(16:Nat):Int); omega)
  (show (0:Nat)+(16:Nat)≤(1:Nat)+(1:Nat)+(1:Nat)+(1:Nat)+(1:Nat)+(1:Nat)+(1:Nat)+(1:Nat)+(1:Nat)+(1:Nat)+(1:Nat)+(1:Nat)+(1:Nat)+(1:Nat)+(1:Nat)+(1:Nat); omega)
  refine an ?_ ?_
  (show (4:Nat)≤(1:Nat)+(1:Nat)+(1:Nat)+(1:Nat); omega)
  refine ca c108_2 ?_
  refine an ?_ ?_
  refine an ?_ ?_
  (show (0:Int)≤(8:Int); omega)
  refine an ?_ ?_
  (show (8:Int)≤(↑(16:Nat):Int); omega)
  refine an ?_ ?_
  (show (↑(16:Nat):Int)≤(↑(16:Nat):Int); omega)
  (show (0:Nat)+(16:Nat)≤(1:Nat)+(1:Nat)+(1:Nat)+(1:Nat)+(1:Nat)+(1:Nat)+(1:Nat)+(1:Nat)+(1:Nat)+(1:Nat)+(1:Nat)+(1:Nat)+(1:Nat)+(1:Nat)+(1:Nat)+(1:Nat); omega)
  refine an ?_ ?_
  (show (8:Nat)≤(1:Nat)+(1:Nat)+(1:Nat)+(1:Nat)+(1:Nat)+(1:Nat)+(1:Nat)+(1:Nat); omega)
  refine ca c99_ ?_
  refine sd ?_
  refine b_ne (fun t1=>?_) (fun t1=>?_)
  exact rfl
  (exfalso; omega)
end Vc
set_option linter.unusedVariables false
namespace Vc
open Go Go.RowKit Go.Sort Go.Proofs
def srtI (zs:List Int):List Int:=zs.mergeSort fun x y=>decide (x≤y)
theorem srtI_len (zs:List Int):(srtI zs).length=zs.length:=List.length_mergeSort zs
theorem srtI_mem (zs:List Int) (e:Int):e∈srtI zs↔e∈zs:=List.mem_mergeSort
theorem srtI_sorted (zs:List Int):(srtI zs).Pairwise (·≤·):=by
 have h:=List.pairwise_mergeSort (le:=fun x y:Int=>decide (x≤y)) (fun a b c h1 h2=>by simp at *; omega) (fun a b=>by simp; omega) zs
 exact h.imp fun h=>by simpa using h
theorem DXs_ints {w:World} {S:Nat→Nat→Prop}:∀ {zs:List Int} {xs:List Value},DXs w S (zs.map (Data.int .i64)) 1 xs↔xs=zs.map (Value.int .i64)
 | [],xs=>by simp [DXs]
 | z::zs,xs=>by
  simp only [List.map_cons,DXs]
  constructor
  ·rintro ⟨x,r,rfl,hx,hd,hr⟩
   rw [DXs_ints.1 hr]
   match x,hx with
   | [v],_ =>
    simp [Data.cells,DRels,DRel] at hd
    obtain ⟨v',r',⟨e1,_⟩,_,e2,_⟩:=hd
    rw [e1,e2]; rfl
  ·rintro rfl
   refine ⟨[.int .i64 z],zs.map (Value.int .i64),rfl,rfl,?_,DXs_ints.2 rfl⟩
   simp [Data.cells,DRels,DRel]
   exact ⟨_,_,⟨rfl,rfl⟩,rfl,rfl,rfl⟩
theorem inplace_callIn {P : Program} [Laid P] {f : FuncId} {h : List AObj} {id t : Nat} {zs ts : List Int} {v : AVal} {res : Nat → Nat → Value} (hf : HasFn P f)
  (hc:∀ (blk cap:Nat) (w:World),Holds (Value.int .i64) w blk 0 zs.toArray→blk < w.heap.size→zs.length≤cap →
   Calls P f #[.slice (some ⟨blk,0,none⟩) zs.length cap] w fun e w'=>e=.returned (res blk cap)∧∃ n os,w'=grow (putRow (Value.int .i64) (Sort.ahead w n) blk 0 ts.toArray) os)
  (hl:ts.length=zs.length) (hh:h[id]?=some (.row t 1 (zs.map (Data.int .i64)) false)) (h0:0 < zs.length)
  (hv:∀ (w':World) (G':Gh) (blk cap:Nat),G'.val id=.slice (some ⟨blk,0,none⟩) zs.length cap→VRel w' G' (h.set id (.row t 1 (ts.map (Data.int .i64)) false)) v (res blk cap)) :
  CallIn P f [.sl id zs.length] h v (h.set id (.row t 1 (ts.map (Data.int .i64)) false)):=by
 refine ⟨hf,by rw [List.length_set],fun n base w0 G slots a w vs hgl hr hvs=>?_⟩
 have hlt:id < h.length:=(List.getElem?_eq_some_iff.1 hh).1
 simp only [VRels] at hvs
 obtain ⟨v1,r,rfl,hv1,rfl⟩:=hvs
 simp only [VRel] at hv1
 obtain ⟨t',sz',es',fz',e1,_,e2⟩:=hv1
 rw [hh] at e1; cases e1
 have e2:=e2 (by simp)
 obtain ⟨_,xs,hown,hdx⟩:=hr.objs id _ hh
 have hxs:=DXs_ints.1 hdx
 subst hxs
 rcases hown.2 with ⟨_,h3⟩ | ⟨g,cap,cur,h3,h4,h5,h6,h7,h8,h9⟩
 ·rw [List.length_map] at h3; omega
 ·rw [List.length_map] at h3 h6 h9
  rw [Nat.mul_one] at h9
  have hg:g < w.heap.size:=(Array.getElem?_eq_some_iff.1 h5).1
  have hb:blockOf (G.val id)=some g:=by rw [h3]; rfl
  rw [e2,h3]
  refine (hc g cap w (holds_of_blockI h5 h9) hg h6).mono ?_
  rintro e w' ⟨rfl,k,os,rfl⟩
  have hno:∀ off,¬ G.S g off:=fun off=>hr.free id _ g off hh hb (fun h=>by cases h)
  have h:=hr.upd (o':=.row t 1 (ts.map (Data.int .i64)) false) (v':=G.val id) (S':=G.S) (row:=some g) (w':=grow (putRow (Value.int .i64) (Sort.ahead w k) g 0 ts.toArray) os) hh
   (.inr ⟨by simp,hb.symm⟩) (fun _ _ h=>h) (fun _ _ h=>.inl h) (grownBy_sortedI _)
   (fun b off hs hbb=>by cases hbb; exact absurd hs (hno off))
   (fun b hbb=>.inl ⟨by simp,hbb⟩)
   ⟨rfl,rfl,by simp [hl],fun _=>rfl⟩
   (fun hx=>by
    refine ⟨by decide,ts.map (Value.int .i64),?_,DXs_ints.2 rfl⟩
    rw [show (⟨G.S,Vc.upd G.val id (G.val id)⟩:Gh).val id=G.val id from upd_same _ _ _,h3,List.length_map,hl]
    exact ownsRow_sortedI hl h4 h5 h6 h7 h8)
   (fun b off hbb _ hs=>by rw [hb] at hbb; cases hbb; exact hno off hs)
   (fun b off hs=>Nat.lt_of_lt_of_le (hr.lim b off hs) (grownBy_sortedI (w:=w) (g:=g) (n:=k) (os:=os) ts.toArray).size)
  exact ⟨_,⟨G.S,Vc.upd G.val id (G.val id)⟩,rfl,h.1,h.2,hv _ _ g cap (by rw [show (⟨G.S,Vc.upd G.val id (G.val id)⟩:Gh).val id=G.val id from upd_same _ _ _,h3])⟩
theorem sort_callIn {P : Program} [Laid P] {f : FuncId} (hf : HasFn P f)
  (hc:∀ (blk off cap:Nat) (zs:List Int) (w:World),Holds (Value.int .i64) w blk off zs.toArray→blk < w.heap.size→zs.length < 4611686018427387904 →
   Calls P f #[.slice (some ⟨blk,off,none⟩) zs.length cap] w fun e w'=>e=.returned (.tuple #[])∧∃ n os,w'=grow (putRow (Value.int .i64) (Sort.ahead w n) blk off (zs.mergeSort fun x y=>decide (x≤y)).toArray) os)
  {h:List AObj} {id t:Nat} {zs:List Int} (hh:h[id]?=some (.row t 1 (zs.map (Data.int .i64)) false)) (h0:0 < zs.length) (h1:zs.length < 4611686018427387904) :
  CallIn P f [.sl id zs.length] h (.tup []) (h.set id (.row t 1 ((srtI zs).map (Data.int .i64)) false)) :=
 inplace_callIn (res:=fun _ _=>.tuple #[]) hf (fun blk cap w hH hb _=>hc blk 0 cap zs w hH hb h1) (srtI_len zs) hh h0 (fun _ _ _ _ _=>by
  simp only [VRel]
  exact ⟨[],rfl,by simp [VRels]⟩)
end Vc
namespace Vc
open Go
def Asc (l:List Int):Prop:=l.Pairwise (· < ·)
theorem asc_ext:∀ {a b:List Int},Asc a→Asc b→(∀ x,x∈a↔x∈b)→a=b
 | [],[],_,_,_=>rfl
 | [],y::b,_,_,h=>absurd ((h y).2 List.mem_cons_self) (by simp)
 | x::a,[],_,_,h=>absurd ((h x).1 List.mem_cons_self) (by simp)
 | x::a,y::b,ha,hb,h=>by
  obtain ⟨ha1,ha2⟩:=List.pairwise_cons.1 ha
  obtain ⟨hb1,hb2⟩:=List.pairwise_cons.1 hb
  have e:x=y:=by
   rcases List.mem_cons.1 ((h x).1 List.mem_cons_self) with e | e
   ·exact e
   ·rcases List.mem_cons.1 ((h y).2 List.mem_cons_self) with e2 | e2
    ·exact e2.symm
    ·have:=ha1 y e2; have:=hb1 x e; omega
  subst e
  rw [asc_ext (a:=a) (b:=b) ha2 hb2 fun z=>⟨fun hz=>?_,fun hz=>?_⟩]
  ·rcases List.mem_cons.1 ((h z).1 (List.mem_cons_of_mem _ hz)) with e | e
   ·subst e; have:=ha1 z hz; omega
   ·exact e
  ·rcases List.mem_cons.1 ((h z).2 (List.mem_cons_of_mem _ hz)) with e | e
   ·subst e; have:=hb1 z hz; omega
   ·exact e
def insI (n:Int):List Int→List Int
 | []=>[n]
 | x::r=>bif decide (n < x) then n::x::r else x::insI n r
theorem insI_mem (n:Int):∀ (l:List Int) (e:Int),e∈insI n l↔e=n∨e∈l
 | [],e=>by simp [insI]
 | x::r,e=>by
  rw [insI]
  by_cases h:n < x
  ·rw [decide_eq_true h]; simp
  ·rw [decide_eq_false h]
   show e∈x::insI n r↔_
   rw [List.mem_cons,insI_mem n r e,List.mem_cons]
   constructor
   ·rintro (h | h | h)
    ·exact .inr (.inl h)
    ·exact .inl h
    ·exact .inr (.inr h)
   ·rintro (h | h | h)
    ·exact .inr (.inl h)
    ·exact .inl h
    ·exact .inr (.inr h)
theorem insI_asc (n:Int):∀ {l:List Int},Asc l→n∉l→Asc (insI n l)
 | [],_,_=>by simp [insI,Asc]
 | x::r,ha,hn=>by
  obtain ⟨h1,h2⟩:=List.pairwise_cons.1 ha
  rw [insI]
  by_cases h:n < x
  ·rw [decide_eq_true h]
   exact List.pairwise_cons.2 ⟨fun y hy=>by
    rcases List.mem_cons.1 hy with e | e
    ·omega
    ·have:=h1 y e; omega,ha⟩
  ·rw [decide_eq_false h]
   have hx:n≠x:=fun e=>hn (by rw [e]; exact List.mem_cons_self)
   exact List.pairwise_cons.2 ⟨fun y hy=>by
    rcases (insI_mem n r y).1 hy with e | e
    ·omega
    ·exact h1 y e,insI_asc n h2 fun hr=>hn (List.mem_cons_of_mem _ hr)⟩
theorem insI_len (n:Int):∀ (l:List Int),(insI n l).length=l.length+1
 | []=>rfl
 | x::r=>by
  rw [insI]
  cases decide (n < x) with
  | true=>rfl
  | false=>show (insI n r).length+1=_; rw [insI_len n r]; rfl
theorem srt_ins {n:Int} {l:List Int} (ha:Asc l) (hn:n∉l):srtI (l++[n])=insI n l:=by
 have hnd:(l++[n]).Nodup:=by
  rw [List.nodup_append]
  refine ⟨ha.imp fun h=>by omega,by simp,fun a h1 b h2=>?_⟩
  rw [List.mem_singleton] at h2
  subst h2
  exact fun e=>hn (e ▸ h1)
 have hp:(srtI (l++[n])).Perm (l++[n]):=List.mergeSort_perm _ _
 have hnd2:(srtI (l++[n])).Nodup:=hp.nodup_iff.2 hnd
 refine asc_ext ?_ (insI_asc n ha hn) fun x=>?_
 ·exact List.Pairwise.imp₂ (fun a b h1 h2=>by omega) (srtI_sorted _) hnd2
 ·rw [srtI_mem,insI_mem,List.mem_append,List.mem_singleton]
  exact ⟨Or.symm,Or.symm⟩
theorem ckU_asc:∀ {l:List Int} {last:Int},0≤last→(ckU l last=0↔Asc l∧∀ x∈l,last < x∧x≤999999999)
 | [],last,_=>by simp [ckU,Asc]
 | x::r,last,h0=>by
  rw [ckU]
  by_cases hc:ckE x last=0
  ·rw [hc]
   show ckU r x=0↔_
   have h1:=firstOf_zero hc (within3 x 1 999999999) (by simp)
   have h2:=firstOf_zero hc (bif decide (x≤last) then 11 else 0) (by simp)
   have hw:=within_ok h1
   have hl:last < x:=by
    by_cases hq:x≤last
    ·rw [decide_eq_true hq] at h2; cases h2
    ·omega
   rw [ckU_asc (l:=r) (last:=x) (by omega)]
   unfold Asc
   rw [List.pairwise_cons]
   constructor
   ·rintro ⟨a,b⟩
    refine ⟨⟨fun y hy=>(b y hy).1,a⟩,fun y hy=>?_⟩
    rcases List.mem_cons.1 hy with e | e
    ·subst e; exact ⟨hl,hw.2⟩
    ·have:=b y e; exact ⟨by omega,this.2⟩
   ·rintro ⟨⟨a,b⟩,d⟩
    exact ⟨b,fun y hy=>⟨a y hy,(d y (List.mem_cons_of_mem _ hy)).2⟩⟩
  ·rw [bne_t hc]
   show ckE x last=0↔_
   refine ⟨fun h=>absurd h hc,fun ⟨_,hd⟩=>absurd ?_ hc⟩
   have:=hd x List.mem_cons_self
   unfold ckE
   have hw:within3 x 1 999999999=0:=by
    unfold within3
    rw [decide_eq_false (by omega),decide_eq_false (by omega)]; rfl
   rw [hw,decide_eq_false (by omega)]
   rfl
end Vc
