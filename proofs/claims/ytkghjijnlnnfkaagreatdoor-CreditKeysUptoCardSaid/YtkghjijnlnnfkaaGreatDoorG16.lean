import Derived.Test.YtkghjijnlnnfkaaGreatDoorG15
import Derived.Test.YtkghjijnlnnfkaaGreatDoorG14
set_option linter.unusedSectionVars false
set_option linter.unusedVariables false
set_option linter.unusedSimpArgs false
set_option maxRecDepth 10000
set_option maxHeartbeats 4000000
namespace Vc
open Go Go.Proofs
def jr143:AFun:=⟨15,1,[.cell 2 4 true],
 (.seq
 (.reg [0] [⟨some 2,.alloc 0 [(.d (.int .u8 0)),(.d (.int .u8 0)),(.d (.int .u8 0)),(.d (.int .u8 0))],none⟩])
 (.seq
  (.reg [] [⟨some 3,.mov (.tmp 0),none⟩,
   ⟨some 4,.shf .shr .i64 (.tmp 3) (.cst (.d (.int .u64 24))),none⟩,
   ⟨some 5,.conv .u8 (.tmp 4),none⟩,
   ⟨some 6,.mov (.tmp 0),none⟩,
   ⟨some 7,.shf .shr .i64 (.tmp 6) (.cst (.d (.int .u64 16))),none⟩,
   ⟨some 8,.conv .u8 (.tmp 7),none⟩,
   ⟨some 9,.mov (.tmp 0),none⟩,
   ⟨some 10,.shf .shr .i64 (.tmp 9) (.cst (.d (.int .u64 8))),none⟩,
   ⟨some 11,.conv .u8 (.tmp 10),none⟩,
   ⟨some 12,.mov (.tmp 0),none⟩,
   ⟨some 13,.conv .u8 (.tmp 12),none⟩,
   ⟨some 14,.build [(.d (.int .u8 0)),(.d (.int .u8 0)),(.d (.int .u8 0)),(.d (.int .u8 0))] [(0,1,(.tmp 5)),(1,1,(.tmp 8)),(2,1,(.tmp 11)),(3,1,(.tmp 13))],none⟩,
   ⟨none,.st 4 (.tmp 2) (.tmp 14),none⟩])
  .ret))⟩
def jr110:AFun:=⟨30,2,[.tmp 4],
 (.seq
 (.reg [] [⟨some 4,.mov (.cst (.nils 1)),none⟩])
 (.seq
  (.reg [] [⟨some 5,.mov (.cst (.nils 1)),none⟩])
  (.seq
  (.seq
   (.reg [] [⟨some 9,.mov (.tmp 1),none⟩,
    ⟨some 10,.arith .sub .i64 (.tmp 9) (.cst (.d (.int .i64 1))),none⟩,
    ⟨some 6,.mov (.tmp 10),none⟩])
   (.post [5] [0,1]
   (.block 0
    (.asrow 1 5 1 5
    (.keep [0,5,6] []
     (.loop
     (.post [0,5,6] [0,1]
      (.seq
      (.seq
       (.reg [] [⟨some 11,.mov (.tmp 6),none⟩,
        ⟨some 12,.cmp .geq (.tmp 11) (.cst (.d (.int .i64 0))),none⟩])
       (.cond (.tmp 12)
       .skip
       (.exit 0)))
      (.seq
       (.block 1
       (.seq
        (.reg [] [⟨some 15,.mov (.tmp 0),none⟩,
         ⟨some 7,.mov (.tmp 15),none⟩])
        (.seq
        (.seq
         (.reg [] [⟨some 8,.mov (.cst (.d (.int .i64 0))),none⟩])
         (.post [0,5,6,7] []
         (.block 2
          (.keep [0,5,6,7,8] []
          (.loop
           (.post [0,5,6,7,8] []
           (.seq
            (.seq
            (.reg [] [⟨some 16,.mov (.tmp 8),none⟩,
             ⟨some 17,.mov (.tmp 6),none⟩,
             ⟨some 18,.cmp .lss (.tmp 16) (.tmp 17),none⟩])
            (.cond (.tmp 18)
             .skip
             (.exit 2)))
            (.seq
            (.block 3
             (.reg [] [⟨some 21,.mov (.tmp 7),none⟩,
              ⟨some 22,.arith .quo .i64 (.tmp 21) (.cst (.d (.int .i64 256))),none⟩,
              ⟨some 7,.mov (.tmp 22),none⟩]))
            (.reg [] [⟨some 19,.mov (.tmp 8),none⟩,
             ⟨some 20,.arith .add .i64 (.tmp 19) (.cst (.d (.int .i64 1))),none⟩,
             ⟨some 8,.mov (.tmp 20),none⟩])))))))))
        (.reg [0,1] [⟨some 23,.mov (.tmp 5),none⟩,
         ⟨some 24,.mov (.tmp 7),none⟩,
         ⟨some 25,.arith .rem .i64 (.tmp 24) (.cst (.d (.int .i64 256))),none⟩,
         ⟨some 26,.conv .u8 (.tmp 25),none⟩,
         ⟨some 27,.bsl 0 5 1 1 [(.int .u8 0)] [(0,(.tmp 26))],none⟩,
         ⟨some 28,.app 1 5 1 1 (.tmp 23) (.tmp 27),none⟩,
         ⟨some 5,.mov (.tmp 28),none⟩]))))
       (.reg [] [⟨some 13,.mov (.tmp 6),none⟩,
        ⟨some 14,.arith .sub .i64 (.tmp 13) (.cst (.d (.int .i64 1))),none⟩,
        ⟨some 6,.mov (.tmp 14),none⟩]))))))))))
  (.seq
   (.reg [] [⟨some 29,.mov (.tmp 5),none⟩,
    ⟨some 4,.mov (.tmp 29),none⟩])
   .ret))))⟩
def jr111:AFun:=⟨20,0,[.tmp 2],
 (.seq
 (.reg [] [⟨some 2,.mov (.cst (.d (.int .i64 0))),none⟩])
 (.seq
  (.reg [] [⟨some 3,.mov (.cst (.d (.int .i64 0))),none⟩])
  (.seq
  (.seq
   (.reg [] [⟨some 4,.mov (.cst (.d (.int .i64 0))),none⟩])
   (.post [3] []
   (.block 0
    (.keep [0,3,4] []
    (.loop
     (.post [0,3,4] []
     (.seq
      (.seq
      (.reg [] [⟨some 5,.mov (.tmp 4),none⟩,
       ⟨some 6,.mov (.tmp 0),none⟩,
       ⟨some 7,.len (.tmp 6),none⟩,
       ⟨some 8,.cmp .lss (.tmp 5) (.tmp 7),none⟩])
      (.cond (.tmp 8)
       .skip
       (.exit 0)))
      (.seq
      (.block 1
       (.reg [] [⟨some 11,.mov (.tmp 3),none⟩,
        ⟨some 12,.arith .mul .i64 (.cst (.d (.int .i64 256))) (.tmp 11),none⟩,
        ⟨some 13,.mov (.tmp 0),none⟩,
        ⟨some 14,.mov (.tmp 4),none⟩,
        ⟨some 15,.ixa 1 (.tmp 13) (.tmp 14),none⟩,
        ⟨some 16,.ld false 1 (.tmp 15),none⟩,
        ⟨some 17,.conv .i64 (.tmp 16),none⟩,
        ⟨some 18,.arith .add .i64 (.tmp 12) (.tmp 17),none⟩,
        ⟨some 3,.mov (.tmp 18),none⟩]))
      (.reg [] [⟨some 9,.mov (.tmp 4),none⟩,
       ⟨some 10,.arith .add .i64 (.tmp 9) (.cst (.d (.int .i64 1))),none⟩,
       ⟨some 4,.mov (.tmp 10),none⟩])))))))))
  (.seq
   (.reg [] [⟨some 19,.mov (.tmp 3),none⟩,
    ⟨some 2,.mov (.tmp 19),none⟩])
   .ret))))⟩
def jr108:AFun:=⟨17,1,[.tmp 2],
 (.seq
 (.reg [0] [⟨some 1,.cbx 0 4 (.tmp 0),none⟩,
  ⟨some 2,.mov (.cst (.d (.int .i64 0))),none⟩])
 (.seq
  (.reg [] [⟨some 3,.mov (.cst (.d (.int .i64 0))),none⟩])
  (.seq
  (.seq
   (.reg [] [⟨some 5,.mov (.cst (.d (.int .i64 0))),none⟩])
   (.post [3] [0]
   (.block 0
    (.keep [1,3,5] [0]
    (.loop
     (.post [1,3,5] []
     (.seq
      (.reg [] [⟨some 6,.cmp .lss (.tmp 5) (.cst (.d (.int .i64 4))),none⟩])
      (.seq
      (.cond (.tmp 6)
       .skip
       (.exit 0))
      (.seq
       (.block 1
       (.seq
        (.reg [] [⟨some 7,.mov (.tmp 5),none⟩,
         ⟨some 4,.mov (.tmp 7),none⟩])
        (.reg [] [⟨some 8,.mov (.tmp 3),none⟩,
         ⟨some 9,.shf .shl .i64 (.tmp 8) (.cst (.d (.int .u64 8))),none⟩,
         ⟨some 10,.mov (.tmp 4),none⟩,
         ⟨some 11,.ixp 4 1 (.tmp 1) (.tmp 10),none⟩,
         ⟨some 12,.ld false 1 (.tmp 11),none⟩,
         ⟨some 13,.conv .i64 (.tmp 12),none⟩,
         ⟨some 14,.bit .or .i64 (.tmp 9) (.tmp 13),none⟩,
         ⟨some 3,.mov (.tmp 14),none⟩])))
       (.reg [] [⟨some 15,.arith .add .i64 (.tmp 5) (.cst (.d (.int .i64 1))),none⟩,
        ⟨some 5,.mov (.tmp 15),none⟩]))))))))))
  (.seq
   (.reg [] [⟨some 16,.mov (.tmp 3),none⟩,
    ⟨some 2,.mov (.tmp 16),none⟩])
   .ret))))⟩
theorem wrap8 {x:Int} (h:0≤x∧x≤255):IntKind.wrap .u8 x=x:=by
 simp [IntKind.wrap,IntKind.bits,IntKind.signed]
 omega
theorem wrap8m (x:Int):IntKind.wrap .u8 x=x % 256:=by
 simp [IntKind.wrap,IntKind.bits,IntKind.signed]
theorem shr_f (n b m:Int) (hn:0≤n) (hb:0≤b) (hm:(2:Int) ^ (min b.toNat IntKind.i64.bits)=m):IntKind.i64=IntKind.i64∧shfF .shr .i64 n b=some (n / m):=by
 refine ⟨rfl,?_⟩
 simp only [shfF]
 rw [if_neg (by omega),hm,Int.fdiv_eq_ediv_of_nonneg]
 rw [← hm]
 exact Int.le_of_lt (Int.pow_pos (by decide))
def o4 (n:Int):List Int:=[n / 16777216 % 256,n / 65536 % 256,n / 256 % 256,n % 256]
theorem c143 (n:Int) (h:0≤n∧n≤1000000000):CallDet Tryz.prog 143 [.d (.int .i64 n)] [.agg [.int .u8 (n / 16777216 % 256),.int .u8 (n / 65536 % 256),.int .u8 (n / 256 % 256),.int .u8 (n % 256)]]:=by
 have e24:=shr_f n 24 16777216 h.1 (by decide) (by decide)
 have e16:=shr_f n 16 65536 h.1 (by decide) (by decide)
 have e8:=shr_f n 8 256 h.1 (by decide) (by decide)
 have fin:resV [.agg [.int .u8 (IntKind.wrap .u8 (n / 16777216)),.int .u8 (IntKind.wrap .u8 (n / 65536)),.int .u8 (IntKind.wrap .u8 (n / 256)),.int .u8 (IntKind.wrap .u8 n)]]=resV [.agg [.int .u8 (n / 16777216 % 256),.int .u8 (n / 65536 % 256),.int .u8 (n / 256 % 256),.int .u8 (n % 256)]]:=by
  rw [wrap8m,wrap8m,wrap8m,wrap8m]
 refine call_of_vc (x:=jr143) (by kernel_rfl) rfl ?_
 refine ca e24 ?_
 refine ca rfl ?_
 refine ca e16 ?_
 refine ca rfl ?_
 refine ca e8 ?_
 refine ca rfl ?_
 refine ca rfl ?_
 assumption
 all_goals exact fin
def by8 (n:Int) (m:Nat):List Int:=(List.range m).map fun t=>n / (256:Int) ^ (3 - t) % 256
theorem by8_snoc (n:Int) (m:Nat):by8 n (m+1)=by8 n m++[n / (256:Int) ^ (3 - m) % 256]:=by
 simp [by8,List.range_succ]
theorem by8_len (n:Int) (m:Nat):(by8 n m).length=m:=by simp [by8]
theorem by8_4 (n:Int):by8 n 4=o4 n:=by simp [by8,o4,List.range_succ]
theorem dv_b {n:Int} (h:0≤n∧n≤1000000000) (k:Nat):0≤n / (256:Int) ^ k∧n / (256:Int) ^ k≤1000000000:=by
 have hp:(0:Int) < 256 ^ k:=Int.pow_pos (by decide)
 refine ⟨Int.ediv_nonneg h.1 (Int.le_of_lt hp),?_⟩
 exact Int.le_trans (Int.ediv_le_self _ h.1) h.2
theorem dv_s (n:Int) (k:Nat):n / (256:Int) ^ k / 256=n / (256:Int) ^ (k+1):=by
 rw [Int.ediv_ediv_of_nonneg (Int.le_of_lt (Int.pow_pos (by decide))),Int.pow_succ]
theorem c110 (n:Int) (h:0≤n∧n≤1000000000):CallDet Tryz.prog 110 [.d (.int .i64 n),.d (.int .i64 4)] [.slice 1 (bys (o4 n))]:=by
 refine call_of_vc (x:=jr110) (by kernel_rfl) rfl ?_
 refine ar_sub ?_ ?_
 refine an ?_ ?_
 (show (-9223372036854775808:Int)≤(4:Int) - (1:Int); omega)
 (show (4:Int) - (1:Int)≤(9223372036854775807:Int); omega)
 rotate_left
 refine loop_st (fun m:Nat=>⟨[(0,.d (.int .i64 n)),(5,.sl 1 (bys (by8 n m)).length),(6,.d (.int .i64 ((3:Int) - (m:Nat))))],[.none,.row 5 1 (bys (by8 n m)) false]⟩) (fun m=>m≤4) (fun m=>4 - m) 0 rfl (Nat.zero_le _) ?_
 intro m hm
 have hm:m≤4:=hm
 have hl:=by8_len n m
 have hbl:=bys_len (by8 n m)
 dsimp only
 by_cases hm4:m < 4
 ·have hb:=dv_b h (3 - m)
  have ew:IntKind.wrap .u8 (n / (256:Int) ^ (3 - m) % 256)=n / (256:Int) ^ (3 - m) % 256:=wrap8 (by omega)
  have eb:bys (by8 n m)++[Data.int .u8 (IntKind.wrap .u8 (n / (256:Int) ^ (3 - m) % 256))]=bys (by8 n (m+1)):=by
   rw [ew,by8_snoc]; simp [bys]
  have fin:∃ a':Nat,(a'≤4∧4 - a' < 4 - m)∧(⟨[(0,.d (.int .i64 n)),(5,.sl 1 (bys (by8 n m)++[Data.int .u8 (IntKind.wrap .u8 (n / (256:Int) ^ (3 - m) % 256))]).length),(6,.d (.int .i64 ((3:Int) - (m:Nat) - 1)))],[.none,.row 5 1 (bys (by8 n m)++[Data.int .u8 (IntKind.wrap .u8 (n / (256:Int) ^ (3 - m) % 256))]) false]⟩:St)=⟨[(0,.d (.int .i64 n)),(5,.sl 1 (bys (by8 n a')).length),(6,.d (.int .i64 ((3:Int) - (a':Nat))))],[.none,.row 5 1 (bys (by8 n a')) false]⟩ :=
   ⟨m+1,⟨by omega,by omega⟩,by rw [eb,show ((3:Int) - (m:Nat) - 1)=3 - ((m+1:Nat):Int) by omega]⟩
  refine sd ?_
  refine b_le (fun t1=>?_) (fun t1=>?_)
  rotate_left
  (exfalso; omega)
  refine loop_st (fun k:Nat=>⟨[(0,.d (.int .i64 n)),(5,.sl 1 (bys (by8 n m)).length),(6,.d (.int .i64 ((3:Int) - (m:Nat)))),(7,.d (.int .i64 (n / (256:Int) ^ k))),(8,.d (.int .i64 ((k:Nat))))],[.none,.row 5 1 (bys (by8 n m)) false]⟩) (fun k=>k≤3 - m) (fun k=>3 - m - k) 0 (by rw [Int.pow_zero,Int.ediv_one]; rfl) (Nat.zero_le _) ?_
  intro k hk
  have hk:k≤3 - m:=hk
  have hb2:=dv_b h k
  dsimp only
  by_cases hkn:k < 3 - m
  ·have fin2:∃ a':Nat,(a'≤3 - m∧3 - m - a' < 3 - m - k)∧(⟨[(0,.d (.int .i64 n)),(5,.sl 1 (bys (by8 n m)).length),(6,.d (.int .i64 ((3:Int) - (m:Nat)))),(7,.d (.int .i64 (n / (256:Int) ^ k / 256))),(8,.d (.int .i64 ((k:Int)+1)))],[.none,.row 5 1 (bys (by8 n m)) false]⟩:St)=⟨[(0,.d (.int .i64 n)),(5,.sl 1 (bys (by8 n m)).length),(6,.d (.int .i64 ((3:Int) - (m:Nat)))),(7,.d (.int .i64 (n / (256:Int) ^ a'))),(8,.d (.int .i64 ((a':Nat))))],[.none,.row 5 1 (bys (by8 n m)) false]⟩:=⟨k+1,⟨by omega,by omega⟩,by rw [dv_s]; rfl⟩
   refine sd ?_
   refine b_lt (fun t2=>?_) (fun t2=>?_)
   refine ar_quo ?_ ?_
   refine an ?_ ?_
   (show (0:Int)≤n / (256:Int) ^ k; omega)
   refine an ?_ ?_
   (show n / (256:Int) ^ k≤(9223372036854775807:Int); omega)
   (show (1:Int)≤(256:Int); omega)
   refine ar_add ?_ ?_
   refine an ?_ ?_
   (show (-9223372036854775808:Int)≤(↑k:Int)+(1:Int); omega)
   (show (↑k:Int)+(1:Int)≤(9223372036854775807:Int); omega)
   rotate_left
   (exfalso; omega)
   all_goals exact fin2
  ·have e:k=3 - m:=by omega
   subst e
   refine sd ?_
   refine b_lt (fun t2=>?_) (fun t2=>?_)
   (exfalso; omega)
   refine ar_rem ?_ ?_
   refine an ?_ ?_
   (show (0:Int)≤n / (256:Int) ^ ((3:Nat) - m); omega)
   (show (1:Int)≤(256:Int); omega)
   refine ca rfl ?_
   refine sd ?_
   refine sd ?_
   refine sd ?_
   refine an ?_ ?_
   refine an ?_ ?_
   exact rfl
   refine an ?_ ?_
   exact rfl
   refine an ?_ ?_
   exact rfl
   refine an ?_ ?_
   (show (List.length (bys (by8 n m))+(1:Nat)) * (1:Nat)≤(2:Nat) ^ (47:Nat); omega)
   (show List.length (bys (by8 n m))+(1:Nat)≤(2:Nat) ^ (47:Nat); omega)
   refine ar_sub ?_ ?_
   refine an ?_ ?_
   (show (-9223372036854775808:Int)≤(3:Int) - (↑m:Int) - (1:Int); omega)
   (show (3:Int) - (↑m:Int) - (1:Int)≤(9223372036854775807:Int); omega)
   rotate_left
   all_goals exact fin
 ·have e:m=4:=by omega
  subst e
  rw [by8_4]
  refine sd ?_
  refine sd ?_
  exact rfl
theorem c110r (n:Int) (h:0≤n∧n≤1000000000):CallRow Tryz.prog 110 [.d (.int .i64 n),.d (.int .i64 4)] 5 1 (bys (o4 n)):=by
 refine callRow_of_vc (x:=jr110) (by kernel_rfl) rfl ?_
 refine ar_sub ?_ ?_
 refine an ?_ ?_
 (show (-9223372036854775808:Int)≤(4:Int) - (1:Int); omega)
 (show (4:Int) - (1:Int)≤(9223372036854775807:Int); omega)
 rotate_left
 refine loop_st (fun m:Nat=>⟨[(0,.d (.int .i64 n)),(5,.sl 1 (bys (by8 n m)).length),(6,.d (.int .i64 ((3:Int) - (m:Nat))))],[.none,.row 5 1 (bys (by8 n m)) false]⟩) (fun m=>m≤4) (fun m=>4 - m) 0 rfl (Nat.zero_le _) ?_
 intro m hm
 have hm:m≤4:=hm
 have hl:=by8_len n m
 have hbl:=bys_len (by8 n m)
 dsimp only
 by_cases hm4:m < 4
 ·have hb:=dv_b h (3 - m)
  have ew:IntKind.wrap .u8 (n / (256:Int) ^ (3 - m) % 256)=n / (256:Int) ^ (3 - m) % 256:=wrap8 (by omega)
  have eb:bys (by8 n m)++[Data.int .u8 (IntKind.wrap .u8 (n / (256:Int) ^ (3 - m) % 256))]=bys (by8 n (m+1)):=by
   rw [ew,by8_snoc]; simp [bys]
  have fin:∃ a':Nat,(a'≤4∧4 - a' < 4 - m)∧(⟨[(0,.d (.int .i64 n)),(5,.sl 1 (bys (by8 n m)++[Data.int .u8 (IntKind.wrap .u8 (n / (256:Int) ^ (3 - m) % 256))]).length),(6,.d (.int .i64 ((3:Int) - (m:Nat) - 1)))],[.none,.row 5 1 (bys (by8 n m)++[Data.int .u8 (IntKind.wrap .u8 (n / (256:Int) ^ (3 - m) % 256))]) false]⟩:St)=⟨[(0,.d (.int .i64 n)),(5,.sl 1 (bys (by8 n a')).length),(6,.d (.int .i64 ((3:Int) - (a':Nat))))],[.none,.row 5 1 (bys (by8 n a')) false]⟩ :=
   ⟨m+1,⟨by omega,by omega⟩,by rw [eb,show ((3:Int) - (m:Nat) - 1)=3 - ((m+1:Nat):Int) by omega]⟩
  refine sd ?_
  refine b_le (fun t1=>?_) (fun t1=>?_)
  rotate_left
  (exfalso; omega)
  refine loop_st (fun k:Nat=>⟨[(0,.d (.int .i64 n)),(5,.sl 1 (bys (by8 n m)).length),(6,.d (.int .i64 ((3:Int) - (m:Nat)))),(7,.d (.int .i64 (n / (256:Int) ^ k))),(8,.d (.int .i64 ((k:Nat))))],[.none,.row 5 1 (bys (by8 n m)) false]⟩) (fun k=>k≤3 - m) (fun k=>3 - m - k) 0 (by rw [Int.pow_zero,Int.ediv_one]; rfl) (Nat.zero_le _) ?_
  intro k hk
  have hk:k≤3 - m:=hk
  have hb2:=dv_b h k
  dsimp only
  by_cases hkn:k < 3 - m
  ·have fin2:∃ a':Nat,(a'≤3 - m∧3 - m - a' < 3 - m - k)∧(⟨[(0,.d (.int .i64 n)),(5,.sl 1 (bys (by8 n m)).length),(6,.d (.int .i64 ((3:Int) - (m:Nat)))),(7,.d (.int .i64 (n / (256:Int) ^ k / 256))),(8,.d (.int .i64 ((k:Int)+1)))],[.none,.row 5 1 (bys (by8 n m)) false]⟩:St)=⟨[(0,.d (.int .i64 n)),(5,.sl 1 (bys (by8 n m)).length),(6,.d (.int .i64 ((3:Int) - (m:Nat)))),(7,.d (.int .i64 (n / (256:Int) ^ a'))),(8,.d (.int .i64 ((a':Nat))))],[.none,.row 5 1 (bys (by8 n m)) false]⟩:=⟨k+1,⟨by omega,by omega⟩,by rw [dv_s]; rfl⟩
   refine sd ?_
   refine b_lt (fun t2=>?_) (fun t2=>?_)
   refine ar_quo ?_ ?_
   refine an ?_ ?_
   (show (0:Int)≤n / (256:Int) ^ k; omega)
   refine an ?_ ?_
   (show n / (256:Int) ^ k≤(9223372036854775807:Int); omega)
   (show (1:Int)≤(256:Int); omega)
   refine ar_add ?_ ?_
   refine an ?_ ?_
   (show (-9223372036854775808:Int)≤(↑k:Int)+(1:Int); omega)
   (show (↑k:Int)+(1:Int)≤(9223372036854775807:Int); omega)
   rotate_left
   (exfalso; omega)
   all_goals exact fin2
  ·have e:k=3 - m:=by omega
   subst e
   refine sd ?_
   refine b_lt (fun t2=>?_) (fun t2=>?_)
   (exfalso; omega)
   refine ar_rem ?_ ?_
   refine an ?_ ?_
   (show (0:Int)≤n / (256:Int) ^ ((3:Nat) - m); omega)
   (show (1:Int)≤(256:Int); omega)
   refine ca rfl ?_
   refine sd ?_
   refine sd ?_
   refine sd ?_
   refine an ?_ ?_
   refine an ?_ ?_
   exact rfl
   refine an ?_ ?_
   exact rfl
   refine an ?_ ?_
   exact rfl
   refine an ?_ ?_
   (show (List.length (bys (by8 n m))+(1:Nat)) * (1:Nat)≤(2:Nat) ^ (47:Nat); omega)
   (show List.length (bys (by8 n m))+(1:Nat)≤(2:Nat) ^ (47:Nat); omega)
   refine ar_sub ?_ ?_
   refine an ?_ ?_
   (show (-9223372036854775808:Int)≤(3:Int) - (↑m:Int) - (1:Int); omega)
   (show (3:Int) - (↑m:Int) - (1:Int)≤(9223372036854775807:Int); omega)
   rotate_left
   all_goals exact fin
 ·have e:m=4:=by omega
  subst e
  rw [by8_4]
  refine sd ?_
  rotate_left
  exact .inl ⟨1,⟨rfl,rfl⟩,rfl⟩
end Vc
set_option maxRecDepth 10000
set_option maxHeartbeats 4000000
namespace Vc
open Go Go.Proofs
def jr107:AFun:=⟨14,4,[.tmp 2],
 (.seq
 (.reg [0] [⟨some 1,.cbx 0 10 (.tmp 0),none⟩,
  ⟨some 2,.mov (.cst (.nils 1)),none⟩])
 (.seq
  (.regd [1,2] [⟨some 5,.fad 0 (.tmp 1),none⟩,
   ⟨some 6,.ld false 1 (.tmp 5),none⟩,
   ⟨some 7,.call 143 [(.tmp 6)],none⟩,
   ⟨some 8,.fad 1 (.tmp 1),none⟩,
   ⟨some 9,.ld false 1 (.tmp 8),none⟩,
   ⟨some 10,.call 143 [(.tmp 9)],none⟩,
   ⟨some 3,.alloc 1 [(.d (.int .u8 0)),(.d (.int .u8 0)),(.d (.int .u8 0)),(.d (.int .u8 0))],none⟩,
   ⟨some 4,.alloc 2 [(.d (.int .u8 0)),(.d (.int .u8 0)),(.d (.int .u8 0)),(.d (.int .u8 0))],none⟩,
   ⟨none,.st 4 (.tmp 3) (.tmp 7),none⟩,
   ⟨none,.st 4 (.tmp 4) (.tmp 10),none⟩] [(0,3),(1,3),(2,3),(0,4),(1,4),(2,4),(0,6),(1,6),(2,6),(3,6),(4,6),(5,6),(0,7),(1,7),(2,7),(3,7),(4,7),(5,7),(6,7)])
  (.seq
  (.regd [3] [⟨some 11,.sla 4 (.tmp 3) none none,none⟩,
   ⟨some 12,.sla 4 (.tmp 4) none none,none⟩,
   ⟨some 13,.app 3 5 1 1 (.tmp 11) (.tmp 12),none⟩,
   ⟨some 2,.mov (.tmp 13),none⟩] [(0,1)])
  .ret)))⟩
def jr106:AFun:=⟨14,3,[.cell 4 10 true],
 (.seq
 (.reg [0,1,2] [⟨some 2,.box 0 10 (.tmp 0),none⟩,
  ⟨some 3,.cbx 1 8 (.tmp 1),none⟩,
  ⟨some 4,.alloc 2 [(.d (.int .i64 0)),(.d (.int .i64 0)),(.d (.int .u8 0)),(.d (.int .u8 0)),(.d (.int .u8 0)),(.d (.int .u8 0)),(.d (.int .u8 0)),(.d (.int .u8 0)),(.d (.int .u8 0)),(.d (.int .u8 0))],none⟩])
 (.seq
  (.regd [] [⟨some 6,.ld true 8 (.tmp 3),none⟩,
   ⟨some 7,.ld true 10 (.tmp 2),none⟩,
   ⟨some 8,.call 107 [(.tmp 7)],none⟩,
   ⟨some 9,.call 142 [(.tmp 6),(.tmp 8)],none⟩,
   ⟨some 5,.mov (.tmp 9),none⟩,
   ⟨some 10,.ext 0 (.tmp 5),none⟩,
   ⟨some 11,.ext 1 (.tmp 5),none⟩,
   ⟨some 12,.fad 2 (.tmp 2),none⟩,
   ⟨none,.st 8 (.tmp 12) (.tmp 10),none⟩] [(0,1),(0,2),(5,6),(6,7),(6,8)])
  (.seq
  (.reg [] [⟨some 13,.ld true 10 (.tmp 2),none⟩,
   ⟨none,.st 10 (.tmp 4) (.tmp 13),none⟩])
  .ret)))⟩
def jr99:AFun:=⟨11,2,[.tmp 2],
 (.seq
 (.reg [0] [⟨some 1,.cbx 0 10 (.tmp 0),none⟩,
  ⟨some 2,.mov (.cst (.d (.int .i64 0))),none⟩])
 (.seq
  (.regd [1] [⟨some 3,.fad 0 (.tmp 1),none⟩,
   ⟨some 4,.ld false 1 (.tmp 3),none⟩,
   ⟨some 5,.call 91 [(.tmp 4),(.cst (.d (.int .i64 1))),(.cst (.d (.int .i64 999999999)))],none⟩,
   ⟨some 6,.fad 1 (.tmp 1),none⟩,
   ⟨some 7,.ld false 1 (.tmp 6),none⟩,
   ⟨some 8,.call 91 [(.tmp 7),(.cst (.d (.int .i64 1))),(.cst (.d (.int .i64 100000000)))],none⟩,
   ⟨some 9,.bsl 1 30 1 2 [(.int .i64 0),(.int .i64 0)] [(0,(.tmp 5)),(1,(.tmp 8))],none⟩,
   ⟨some 10,.call 90 [(.tmp 9)],none⟩,
   ⟨some 2,.mov (.tmp 10),none⟩] [(0,3),(1,3),(2,3),(0,4),(1,4),(2,4)])
  .ret))⟩
def jr38:AFun:=⟨22,3,[.cell 6 10 true,.tmp 7],
 (.seq
 (.reg [0,1] [⟨some 3,.cbx 0 8 (.tmp 0),none⟩,
  ⟨some 6,.alloc 1 [(.d (.int .i64 0)),(.d (.int .i64 0)),(.d (.int .u8 0)),(.d (.int .u8 0)),(.d (.int .u8 0)),(.d (.int .u8 0)),(.d (.int .u8 0)),(.d (.int .u8 0)),(.d (.int .u8 0)),(.d (.int .u8 0))],none⟩,
  ⟨some 7,.mov (.cst (.d (.int .i64 0))),none⟩])
 (.seq
  (.reg [2] [⟨some 10,.mov (.tmp 1),none⟩,
   ⟨some 11,.mov (.tmp 2),none⟩,
   ⟨some 12,.build [(.d (.int .i64 0)),(.d (.int .i64 0)),(.d (.int .u8 0)),(.d (.int .u8 0)),(.d (.int .u8 0)),(.d (.int .u8 0)),(.d (.int .u8 0)),(.d (.int .u8 0)),(.d (.int .u8 0)),(.d (.int .u8 0))] [(0,1,(.tmp 10)),(1,1,(.tmp 11))],none⟩,
   ⟨some 8,.alloc 2 [(.d (.int .i64 0)),(.d (.int .i64 0)),(.d (.int .u8 0)),(.d (.int .u8 0)),(.d (.int .u8 0)),(.d (.int .u8 0)),(.d (.int .u8 0)),(.d (.int .u8 0)),(.d (.int .u8 0)),(.d (.int .u8 0))],none⟩,
   ⟨none,.st 10 (.tmp 8) (.tmp 12),none⟩])
  (.seq
  (.seq
   (.reg [] [⟨some 13,.ld true 10 (.tmp 8),none⟩,
    ⟨some 14,.call 99 [(.tmp 13)],none⟩,
    ⟨some 9,.mov (.tmp 14),none⟩])
   (.seq
   (.reg [] [⟨some 15,.mov (.tmp 9),none⟩,
    ⟨some 16,.cmp .neq (.tmp 15) (.cst (.d (.int .i64 0))),none⟩])
   (.cond (.tmp 16)
    (.seq
    (.reg [] [⟨some 17,.build [(.d (.int .i64 0)),(.d (.int .i64 0)),(.d (.int .u8 0)),(.d (.int .u8 0)),(.d (.int .u8 0)),(.d (.int .u8 0)),(.d (.int .u8 0)),(.d (.int .u8 0)),(.d (.int .u8 0)),(.d (.int .u8 0))] [],none⟩,
     ⟨some 18,.mov (.tmp 9),none⟩,
     ⟨none,.st 10 (.tmp 6) (.tmp 17),none⟩,
     ⟨some 7,.mov (.tmp 18),none⟩])
    .ret)
    .skip)))
  (.seq
   (.reg [] [⟨some 19,.ld true 10 (.tmp 8),none⟩,
    ⟨some 20,.ld true 8 (.tmp 3),none⟩,
    ⟨some 21,.call 106 [(.tmp 19),(.tmp 20)],none⟩,
    ⟨none,.st 10 (.tmp 6) (.tmp 21),none⟩,
    ⟨some 7,.mov (.cst (.d (.int .i64 0))),none⟩])
   .ret))))⟩
def jr109:AFun:=⟨14,3,[.cell 6 8 true],
 (.seq
 (.reg [0,1] [⟨some 3,.cbx 0 8 (.tmp 0),none⟩,
  ⟨some 6,.alloc 1 [(.d (.int .u8 0)),(.d (.int .u8 0)),(.d (.int .u8 0)),(.d (.int .u8 0)),(.d (.int .u8 0)),(.d (.int .u8 0)),(.d (.int .u8 0)),(.d (.int .u8 0))],none⟩])
 (.seq
  (.regd [2] [⟨some 7,.ld true 8 (.tmp 3),none⟩,
   ⟨some 8,.mov (.tmp 1),none⟩,
   ⟨some 9,.calln 2 5 1 110 [(.tmp 8),(.cst (.d (.int .i64 4)))],none⟩,
   ⟨some 10,.mov (.tmp 2),none⟩,
   ⟨some 11,.call 110 [(.tmp 10),(.cst (.d (.int .i64 4)))],none⟩,
   ⟨some 12,.app 2 5 1 1 (.tmp 9) (.tmp 11),none⟩,
   ⟨some 13,.call 144 [(.tmp 7),(.tmp 12)],none⟩,
   ⟨none,.st 8 (.tmp 6) (.tmp 13),none⟩] [(0,1),(0,2),(0,3),(1,3),(2,3),(0,4),(0,5)])
  .ret))⟩
def jr43:AFun:=⟨14,2,[.cell 6 10 true],
 (.seq
 (.reg [0,1] [⟨some 3,.cbx 0 8 (.tmp 0),none⟩,
  ⟨some 6,.alloc 1 [(.d (.int .i64 0)),(.d (.int .i64 0)),(.d (.int .u8 0)),(.d (.int .u8 0)),(.d (.int .u8 0)),(.d (.int .u8 0)),(.d (.int .u8 0)),(.d (.int .u8 0)),(.d (.int .u8 0)),(.d (.int .u8 0))],none⟩])
 (.seq
  (.reg [] [⟨some 7,.mov (.tmp 1),none⟩,
   ⟨some 8,.mov (.tmp 2),none⟩,
   ⟨some 9,.ld true 8 (.tmp 3),none⟩,
   ⟨some 10,.mov (.tmp 1),none⟩,
   ⟨some 11,.mov (.tmp 2),none⟩,
   ⟨some 12,.call 109 [(.tmp 9),(.tmp 10),(.tmp 11)],none⟩,
   ⟨some 13,.build [(.d (.int .i64 0)),(.d (.int .i64 0)),(.d (.int .u8 0)),(.d (.int .u8 0)),(.d (.int .u8 0)),(.d (.int .u8 0)),(.d (.int .u8 0)),(.d (.int .u8 0)),(.d (.int .u8 0)),(.d (.int .u8 0))] [(0,1,(.tmp 7)),(1,1,(.tmp 8)),(2,8,(.tmp 12))],none⟩,
   ⟨none,.st 10 (.tmp 6) (.tmp 13),none⟩])
  .ret))⟩
def jr31:AFun:=⟨11,2,[.tmp 2],
 (.seq
 (.reg [0] [⟨some 1,.cbx 0 10 (.tmp 0),none⟩,
  ⟨some 2,.mov (.cst (.d (.int .i64 0))),none⟩])
 (.seq
  (.regd [1] [⟨some 3,.fad 0 (.tmp 1),none⟩,
   ⟨some 4,.ld false 1 (.tmp 3),none⟩,
   ⟨some 5,.call 98 [(.tmp 4)],none⟩,
   ⟨some 6,.fad 1 (.tmp 1),none⟩,
   ⟨some 7,.ld false 1 (.tmp 6),none⟩,
   ⟨some 8,.call 104 [(.tmp 7)],none⟩,
   ⟨some 9,.bsl 1 3 1 2 [(.int .i64 0),(.int .i64 0)] [(0,(.tmp 5)),(1,(.tmp 8))],none⟩,
   ⟨some 10,.call 96 [(.tmp 9)],none⟩,
   ⟨some 2,.mov (.tmp 10),none⟩] [(0,3),(1,3),(2,3),(0,4),(1,4),(2,4)])
  .ret))⟩
def jr104:AFun:=⟨5,0,[.tmp 2],
 (.seq
 (.reg [] [⟨some 2,.mov (.cst (.d (.int .i64 0))),none⟩])
 (.seq
  (.reg [] [⟨some 3,.mov (.tmp 0),none⟩,
   ⟨some 4,.call 22 [(.tmp 3),(.cst (.d (.int .i64 1))),(.cst (.d (.int .i64 100000000)))],none⟩,
   ⟨some 2,.mov (.tmp 4),none⟩])
  .ret))⟩
theorem o4_b {n m:Int}:∀ b∈o4 n++o4 m,0≤b∧b≤255:=by
 intro b hb
 simp only [o4,List.cons_append,List.nil_append,List.mem_cons,List.not_mem_nil,or_false] at hb
 rcases hb with rfl | rfl | rfl | rfl | rfl | rfl | rfl | rfl <;> omega
theorem c107 (n m:Int) (q:Ky) (h:0≤n∧n≤1000000000) (h2:0≤m∧m≤1000000000):CallDet Tryz.prog 107 [.d (.agg [.int .i64 n,.int .i64 m,.int .u8 q.a,.int .u8 q.b,.int .u8 q.c,.int .u8 q.d,.int .u8 q.e,.int .u8 q.f,.int .u8 q.g,.int .u8 q.h])] [.slice 1 (bys (o4 n++o4 m))]:=by
 have c143_1:=c143 n h
 have c143_2:=c143 m h2
 refine call_of_vc (x:=jr107) (by kernel_rfl) rfl ?_
 refine ca c143_1 ?_
 refine ca c143_2 ?_
 refine an ?_ ?_
 refine an ?_ ?_
 exact rfl
 refine an ?_ ?_
 (show (0:Nat) < (4:Nat); omega)
 exact rfl
 refine an ?_ ?_
 refine an ?_ ?_
 exact rfl
 refine an ?_ ?_
 (show (0:Nat) < (4:Nat); omega)
 exact rfl
 refine sd ?_
 refine sd ?_
 refine an ?_ ?_
 refine an ?_ ?_
 exact rfl
 refine an ?_ ?_
 exact rfl
 refine an ?_ ?_
 (show (0:Nat) < (1:Nat)+(1:Nat)+(1:Nat)+(1:Nat); omega)
 refine an ?_ ?_
 (show ((1:Nat)+(1:Nat)+(1:Nat)+(1:Nat)+((1:Nat)+(1:Nat)+(1:Nat)+(1:Nat))) * (1:Nat)≤(2:Nat) ^ (47:Nat); omega)
 (show (1:Nat)+(1:Nat)+(1:Nat)+(1:Nat)+((1:Nat)+(1:Nat)+(1:Nat)+(1:Nat))≤(2:Nat) ^ (47:Nat); omega)
 refine sd ?_
 exact rfl
theorem c106 (n m:Int) (q k:Ky) (hk:k.ok) (h:0≤n∧n≤1000000000) (h2:0≤m∧m≤1000000000):CallDet Tryz.prog 106 [.d (.agg [.int .i64 n,.int .i64 m,.int .u8 q.a,.int .u8 q.b,.int .u8 q.c,.int .u8 q.d,.int .u8 q.e,.int .u8 q.f,.int .u8 q.g,.int .u8 q.h]),.d (.agg [.int .u8 k.a,.int .u8 k.b,.int .u8 k.c,.int .u8 k.d,.int .u8 k.e,.int .u8 k.f,.int .u8 k.g,.int .u8 k.h])] [.agg [.int .i64 n,.int .i64 m,.int .u8 (sealK k (o4 n++o4 m)).a,.int .u8 (sealK k (o4 n++o4 m)).b,.int .u8 (sealK k (o4 n++o4 m)).c,.int .u8 (sealK k (o4 n++o4 m)).d,.int .u8 (sealK k (o4 n++o4 m)).e,.int .u8 (sealK k (o4 n++o4 m)).f,.int .u8 (sealK k (o4 n++o4 m)).g,.int .u8 (sealK k (o4 n++o4 m)).h]]:=by
 have c107_:=c107 n m q h h2
 have c142_:=c142 k (o4 n++o4 m) hk o4_b (by simp [o4])
 refine call_of_vc (x:=jr106) (by kernel_rfl) rfl ?_
 refine ca c107_ ?_
 refine ca c142_ ?_
 exact rfl
def ckT (n m:Int):Int:=firstOf [within3 n 1 999999999,within3 m 1 100000000]
theorem c99 (n m:Int) (q:Ky):CallDet Tryz.prog 99 [.d (.agg [.int .i64 n,.int .i64 m,.int .u8 q.a,.int .u8 q.b,.int .u8 q.c,.int .u8 q.d,.int .u8 q.e,.int .u8 q.f,.int .u8 q.g,.int .u8 q.h])] [.int .i64 (ckT n m)]:=by
 have w1:=c91 n 1 999999999
 have w2:=c91 m 1 100000000
 have c90_:=c90 [within3 n 1 999999999,within3 m 1 100000000] (by simp)
 refine call_of_vc (x:=jr99) (by kernel_rfl) rfl ?_
 refine ca (c91 _ _ _) ?_
 refine ca (c91 _ _ _) ?_
 refine sd ?_
 refine sd ?_
 refine ca c90_ ?_
 exact rfl
theorem c104 (m:Int):CallDet Tryz.prog 104 [.d (.int .i64 m)] [.int .i64 (within3 m 1 100000000)]:=by
 have w2:=c22 m 1 100000000
 refine call_of_vc (x:=jr104) (by kernel_rfl) rfl ?_
 refine ca (c22 _ _ _) ?_
 exact rfl
theorem c31 (n m:Int) (q:Ky):CallDet Tryz.prog 31 [.d (.agg [.int .i64 n,.int .i64 m,.int .u8 q.a,.int .u8 q.b,.int .u8 q.c,.int .u8 q.d,.int .u8 q.e,.int .u8 q.f,.int .u8 q.g,.int .u8 q.h])] [.int .i64 (ckT n m)]:=by
 have c98_:=c98 n
 have c104_:=c104 m
 have c96_:=c96 [within3 n 1 999999999,within3 m 1 100000000] (by simp)
 refine call_of_vc (x:=jr31) (by kernel_rfl) rfl ?_
 refine ca c98_ ?_
 refine ca c104_ ?_
 refine sd ?_
 refine sd ?_
 refine ca c96_ ?_
 exact rfl
theorem ckT_b {n m:Int} (h:ckT n m=0):(1≤n∧n≤999999999)∧1≤m∧m≤100000000 :=
 ⟨within_ok (firstOf_zero h _ (by simp)),within_ok (firstOf_zero h _ (by simp))⟩
theorem c38 (n m:Int) (k:Ky) (hk:k.ok):CallDet Tryz.prog 38 [.d (.agg [.int .u8 k.a,.int .u8 k.b,.int .u8 k.c,.int .u8 k.d,.int .u8 k.e,.int .u8 k.f,.int .u8 k.g,.int .u8 k.h]),.d (.int .i64 n),.d (.int .i64 m)] (bif ckT n m != 0 then [.agg [.int .i64 0,.int .i64 0,.int .u8 0,.int .u8 0,.int .u8 0,.int .u8 0,.int .u8 0,.int .u8 0,.int .u8 0,.int .u8 0],.int .i64 (ckT n m)] else [.agg [.int .i64 n,.int .i64 m,.int .u8 (sealK k (o4 n++o4 m)).a,.int .u8 (sealK k (o4 n++o4 m)).b,.int .u8 (sealK k (o4 n++o4 m)).c,.int .u8 (sealK k (o4 n++o4 m)).d,.int .u8 (sealK k (o4 n++o4 m)).e,.int .u8 (sealK k (o4 n++o4 m)).f,.int .u8 (sealK k (o4 n++o4 m)).g,.int .u8 (sealK k (o4 n++o4 m)).h],.int .i64 0]):=by
 have c99_:=c99 n m ⟨0,0,0,0,0,0,0,0⟩
 by_cases h0:ckT n m=0
 ·obtain ⟨h1,h2⟩:=ckT_b h0
  have c106_:=c106 n m ⟨0,0,0,0,0,0,0,0⟩ k hk (by omega) (by omega)
  rw [h0] at c99_ ⊢
  refine call_of_vc (x:=jr38) (by kernel_rfl) rfl ?_
  refine ca c99_ ?_
  refine sd ?_
  refine ca c106_ ?_
  exact rfl
 ·rw [bne_t h0]
  refine call_of_vc (x:=jr38) (by kernel_rfl) rfl ?_
  refine ca c99_ ?_
  refine sd ?_
  refine b_ne (fun t1=>?_) (fun t1=>?_)
  exact rfl
  (exfalso; omega)
theorem c109 (n m:Int) (k:Ky) (hk:k.ok) (h:0≤n∧n≤1000000000) (h2:0≤m∧m≤1000000000):CallDet Tryz.prog 109 [.d (.agg [.int .u8 k.a,.int .u8 k.b,.int .u8 k.c,.int .u8 k.d,.int .u8 k.e,.int .u8 k.f,.int .u8 k.g,.int .u8 k.h]),.d (.int .i64 n),.d (.int .i64 m)] [.agg [.int .u8 (sealK k (o4 n++o4 m)).a,.int .u8 (sealK k (o4 n++o4 m)).b,.int .u8 (sealK k (o4 n++o4 m)).c,.int .u8 (sealK k (o4 n++o4 m)).d,.int .u8 (sealK k (o4 n++o4 m)).e,.int .u8 (sealK k (o4 n++o4 m)).f,.int .u8 (sealK k (o4 n++o4 m)).g,.int .u8 (sealK k (o4 n++o4 m)).h]]:=by
 have c110r_:=c110r n h
 have c110_2:=c110 m h2
 have c144_:=c144 k (o4 n++o4 m) hk o4_b (by simp [o4])
 refine call_of_vc (x:=jr109) (by kernel_rfl) rfl ?_
 refine ca (c110r_) ?_
 refine ca c110_2 ?_
 refine sd ?_
 refine an ?_ ?_
 refine an ?_ ?_
 exact rfl
 refine an ?_ ?_
 exact rfl
 refine an ?_ ?_
 exact rfl
 refine an ?_ ?_
 (show ((1:Nat)+(1:Nat)+(1:Nat)+(1:Nat)+((1:Nat)+(1:Nat)+(1:Nat)+(1:Nat))) * (1:Nat)≤(2:Nat) ^ (47:Nat); omega)
 (show (1:Nat)+(1:Nat)+(1:Nat)+(1:Nat)+((1:Nat)+(1:Nat)+(1:Nat)+(1:Nat))≤(2:Nat) ^ (47:Nat); omega)
 refine sd ?_
 refine ca c144_ ?_
 exact rfl
theorem c43 (n m:Int) (k:Ky) (hk:k.ok) (h:0≤n∧n≤1000000000) (h2:0≤m∧m≤1000000000):CallDet Tryz.prog 43 [.d (.agg [.int .u8 k.a,.int .u8 k.b,.int .u8 k.c,.int .u8 k.d,.int .u8 k.e,.int .u8 k.f,.int .u8 k.g,.int .u8 k.h]),.d (.int .i64 n),.d (.int .i64 m)] [.agg [.int .i64 n,.int .i64 m,.int .u8 (sealK k (o4 n++o4 m)).a,.int .u8 (sealK k (o4 n++o4 m)).b,.int .u8 (sealK k (o4 n++o4 m)).c,.int .u8 (sealK k (o4 n++o4 m)).d,.int .u8 (sealK k (o4 n++o4 m)).e,.int .u8 (sealK k (o4 n++o4 m)).f,.int .u8 (sealK k (o4 n++o4 m)).g,.int .u8 (sealK k (o4 n++o4 m)).h]]:=by
 have c109_:=c109 n m k hk h h2
 refine call_of_vc (x:=jr43) (by kernel_rfl) rfl ?_
 refine ca c109_ ?_
 exact rfl
end Vc
set_option maxRecDepth 10000
set_option maxHeartbeats 4000000
namespace Vc
open Go Go.Proofs
def jr36:AFun:=⟨30,5,[.cell 4 22 true,.tmp 5],
 (.seq
 (.reg [0,1,2] [⟨some 2,.cbx 0 22 (.tmp 0),none⟩,
  ⟨some 3,.cbx 1 8 (.tmp 1),none⟩,
  ⟨some 4,.alloc 2 [(.d (.int .i64 0)),(.d (.int .i64 0)),(.d (.int .i64 0)),(.d (.int .i64 0)),(.d (.int .u8 0)),(.d (.int .u8 0)),(.d (.int .u8 0)),(.d (.int .u8 0)),(.d (.int .u8 0)),(.d (.int .u8 0)),(.d (.int .u8 0)),(.d (.int .u8 0)),(.d (.int .u8 0)),(.d (.int .u8 0)),(.d (.int .u8 0)),(.d (.int .u8 0)),(.d (.int .u8 0)),(.d (.int .u8 0)),(.d (.int .u8 0)),(.d (.int .u8 0)),(.d (.bool false)),(.nils 1)],none⟩,
  ⟨some 5,.mov (.cst (.d (.int .i64 0))),none⟩])
 (.seq
  (.seq
  (.regd [3] [⟨some 8,.ld true 22 (.tmp 2),none⟩,
   ⟨some 9,.call 25 [(.tmp 8)],none⟩,
   ⟨some 10,.fad 20 (.tmp 2),none⟩,
   ⟨some 11,.ld false 1 (.tmp 10),none⟩,
   ⟨some 12,.call 92 [(.tmp 11),(.cst (.d (.int .i64 22)))],none⟩,
   ⟨some 13,.ld true 8 (.tmp 3),none⟩,
   ⟨some 14,.fad 4 (.tmp 2),none⟩,
   ⟨some 15,.ld true 8 (.tmp 14),none⟩,
   ⟨some 16,.aeq false [0,0,0,0,0,0,0,0] (.tmp 13) (.tmp 15),none⟩,
   ⟨some 17,.call 92 [(.tmp 16),(.cst (.d (.int .i64 9)))],none⟩,
   ⟨some 18,.bsl 3 30 1 3 [(.int .i64 0),(.int .i64 0),(.int .i64 0)] [(0,(.tmp 9)),(1,(.tmp 12)),(2,(.tmp 17))],none⟩,
   ⟨some 19,.call 90 [(.tmp 18)],none⟩,
   ⟨some 6,.mov (.tmp 19),none⟩] [(0,2),(1,2),(0,3),(1,3),(0,5),(1,5),(2,5),(3,5),(4,5),(0,6),(1,6),(2,6),(3,6),(4,6),(5,6),(0,7),(1,7),(2,7),(3,7),(4,7),(5,7),(0,8),(1,8),(2,8),(3,8),(4,8)])
  (.seq
   (.reg [] [⟨some 20,.mov (.tmp 6),none⟩,
    ⟨some 21,.cmp .neq (.tmp 20) (.cst (.d (.int .i64 0))),none⟩])
   (.cond (.tmp 21)
   (.seq
    (.reg [] [⟨some 22,.build [(.d (.int .i64 0)),(.d (.int .i64 0)),(.d (.int .i64 0)),(.d (.int .i64 0)),(.d (.int .u8 0)),(.d (.int .u8 0)),(.d (.int .u8 0)),(.d (.int .u8 0)),(.d (.int .u8 0)),(.d (.int .u8 0)),(.d (.int .u8 0)),(.d (.int .u8 0)),(.d (.int .u8 0)),(.d (.int .u8 0)),(.d (.int .u8 0)),(.d (.int .u8 0)),(.d (.int .u8 0)),(.d (.int .u8 0)),(.d (.int .u8 0)),(.d (.int .u8 0)),(.d (.bool false)),(.nils 1)] [],none⟩,
     ⟨some 23,.mov (.tmp 6),none⟩,
     ⟨none,.st 22 (.tmp 4) (.tmp 22),none⟩,
     ⟨some 5,.mov (.tmp 23),none⟩])
    .ret)
   .skip)))
  (.seq
  (.reg [4] [⟨some 24,.ld true 22 (.tmp 2),none⟩,
   ⟨some 25,.call 93 [(.tmp 24)],none⟩,
   ⟨some 7,.alloc 4 [(.d (.int .i64 0)),(.d (.int .i64 0)),(.d (.int .i64 0)),(.d (.int .i64 0)),(.d (.int .u8 0)),(.d (.int .u8 0)),(.d (.int .u8 0)),(.d (.int .u8 0)),(.d (.int .u8 0)),(.d (.int .u8 0)),(.d (.int .u8 0)),(.d (.int .u8 0)),(.d (.int .u8 0)),(.d (.int .u8 0)),(.d (.int .u8 0)),(.d (.int .u8 0)),(.d (.int .u8 0)),(.d (.int .u8 0)),(.d (.int .u8 0)),(.d (.int .u8 0)),(.d (.bool false)),(.nils 1)],none⟩,
   ⟨none,.st 22 (.tmp 7) (.tmp 25),none⟩])
  (.seq
   (.reg [] [⟨some 26,.ld true 8 (.tmp 3),none⟩,
    ⟨some 27,.fad 12 (.tmp 7),none⟩,
    ⟨none,.st 8 (.tmp 27) (.tmp 26),none⟩,
    ⟨some 28,.fad 20 (.tmp 7),none⟩,
    ⟨none,.st 1 (.tmp 28) (.cst (.d (.bool true))),none⟩])
   (.seq
   (.reg [] [⟨some 29,.ld true 22 (.tmp 7),none⟩,
    ⟨none,.st 22 (.tmp 4) (.tmp 29),none⟩,
    ⟨some 5,.mov (.cst (.d (.int .i64 0))),none⟩])
   .ret)))))⟩
def jr41:AFun:=⟨21,4,[.cell 4 22 true,.tmp 5],
 (.seq
 (.reg [0,1,2] [⟨some 2,.cbx 0 22 (.tmp 0),none⟩,
  ⟨some 3,.cbx 1 8 (.tmp 1),none⟩,
  ⟨some 4,.alloc 2 [(.d (.int .i64 0)),(.d (.int .i64 0)),(.d (.int .i64 0)),(.d (.int .i64 0)),(.d (.int .u8 0)),(.d (.int .u8 0)),(.d (.int .u8 0)),(.d (.int .u8 0)),(.d (.int .u8 0)),(.d (.int .u8 0)),(.d (.int .u8 0)),(.d (.int .u8 0)),(.d (.int .u8 0)),(.d (.int .u8 0)),(.d (.int .u8 0)),(.d (.int .u8 0)),(.d (.int .u8 0)),(.d (.int .u8 0)),(.d (.int .u8 0)),(.d (.int .u8 0)),(.d (.bool false)),(.nils 1)],none⟩,
  ⟨some 5,.mov (.cst (.d (.int .i64 0))),none⟩])
 (.seq
  (.seq
  (.reg [] [⟨some 7,.fad 20 (.tmp 2),none⟩,
   ⟨some 8,.ld false 1 (.tmp 7),none⟩])
  (.cond (.tmp 8)
   (.seq
   (.reg [] [⟨some 9,.build [(.d (.int .i64 0)),(.d (.int .i64 0)),(.d (.int .i64 0)),(.d (.int .i64 0)),(.d (.int .u8 0)),(.d (.int .u8 0)),(.d (.int .u8 0)),(.d (.int .u8 0)),(.d (.int .u8 0)),(.d (.int .u8 0)),(.d (.int .u8 0)),(.d (.int .u8 0)),(.d (.int .u8 0)),(.d (.int .u8 0)),(.d (.int .u8 0)),(.d (.int .u8 0)),(.d (.int .u8 0)),(.d (.int .u8 0)),(.d (.int .u8 0)),(.d (.int .u8 0)),(.d (.bool false)),(.nils 1)] [],none⟩,
    ⟨none,.st 22 (.tmp 4) (.tmp 9),none⟩,
    ⟨some 5,.mov (.cst (.d (.int .i64 22))),none⟩])
   .ret)
   .skip))
  (.seq
  (.seq
   (.reg [] [⟨some 10,.ld true 8 (.tmp 3),none⟩,
    ⟨some 11,.fad 4 (.tmp 2),none⟩,
    ⟨some 12,.ld true 8 (.tmp 11),none⟩,
    ⟨some 13,.aeq false [0,0,0,0,0,0,0,0] (.tmp 10) (.tmp 12),none⟩])
   (.cond (.tmp 13)
   (.seq
    (.reg [] [⟨some 14,.build [(.d (.int .i64 0)),(.d (.int .i64 0)),(.d (.int .i64 0)),(.d (.int .i64 0)),(.d (.int .u8 0)),(.d (.int .u8 0)),(.d (.int .u8 0)),(.d (.int .u8 0)),(.d (.int .u8 0)),(.d (.int .u8 0)),(.d (.int .u8 0)),(.d (.int .u8 0)),(.d (.int .u8 0)),(.d (.int .u8 0)),(.d (.int .u8 0)),(.d (.int .u8 0)),(.d (.int .u8 0)),(.d (.int .u8 0)),(.d (.int .u8 0)),(.d (.int .u8 0)),(.d (.bool false)),(.nils 1)] [],none⟩,
     ⟨none,.st 22 (.tmp 4) (.tmp 14),none⟩,
     ⟨some 5,.mov (.cst (.d (.int .i64 9))),none⟩])
    .ret)
   .skip))
  (.seq
   (.reg [3] [⟨some 15,.ld true 22 (.tmp 2),none⟩,
    ⟨some 16,.call 94 [(.tmp 15)],none⟩,
    ⟨some 6,.alloc 3 [(.d (.int .i64 0)),(.d (.int .i64 0)),(.d (.int .i64 0)),(.d (.int .i64 0)),(.d (.int .u8 0)),(.d (.int .u8 0)),(.d (.int .u8 0)),(.d (.int .u8 0)),(.d (.int .u8 0)),(.d (.int .u8 0)),(.d (.int .u8 0)),(.d (.int .u8 0)),(.d (.int .u8 0)),(.d (.int .u8 0)),(.d (.int .u8 0)),(.d (.int .u8 0)),(.d (.int .u8 0)),(.d (.int .u8 0)),(.d (.int .u8 0)),(.d (.int .u8 0)),(.d (.bool false)),(.nils 1)],none⟩,
    ⟨none,.st 22 (.tmp 6) (.tmp 16),none⟩])
   (.seq
   (.reg [] [⟨some 17,.ld true 8 (.tmp 3),none⟩,
    ⟨some 18,.fad 12 (.tmp 6),none⟩,
    ⟨none,.st 8 (.tmp 18) (.tmp 17),none⟩,
    ⟨some 19,.fad 20 (.tmp 6),none⟩,
    ⟨none,.st 1 (.tmp 19) (.cst (.d (.bool true))),none⟩])
   (.seq
    (.reg [] [⟨some 20,.ld true 22 (.tmp 6),none⟩,
     ⟨none,.st 22 (.tmp 4) (.tmp 20),none⟩,
     ⟨some 5,.mov (.cst (.d (.int .i64 0))),none⟩])
    .ret))))))⟩
def jr37:AFun:=⟨27,4,[.cell 2 22 true,.tmp 3],
 (.seq
 (.reg [0,1] [⟨some 1,.cbx 0 22 (.tmp 0),none⟩,
  ⟨some 2,.alloc 1 [(.d (.int .i64 0)),(.d (.int .i64 0)),(.d (.int .i64 0)),(.d (.int .i64 0)),(.d (.int .u8 0)),(.d (.int .u8 0)),(.d (.int .u8 0)),(.d (.int .u8 0)),(.d (.int .u8 0)),(.d (.int .u8 0)),(.d (.int .u8 0)),(.d (.int .u8 0)),(.d (.int .u8 0)),(.d (.int .u8 0)),(.d (.int .u8 0)),(.d (.int .u8 0)),(.d (.int .u8 0)),(.d (.int .u8 0)),(.d (.int .u8 0)),(.d (.int .u8 0)),(.d (.bool false)),(.nils 1)],none⟩,
  ⟨some 3,.mov (.cst (.d (.int .i64 0))),none⟩])
 (.seq
  (.seq
  (.regd [2] [⟨some 6,.ld true 22 (.tmp 1),none⟩,
   ⟨some 7,.call 25 [(.tmp 6)],none⟩,
   ⟨some 8,.fad 20 (.tmp 1),none⟩,
   ⟨some 9,.ld false 1 (.tmp 8),none⟩,
   ⟨some 10,.not (.tmp 9),none⟩,
   ⟨some 11,.call 92 [(.tmp 10),(.cst (.d (.int .i64 22)))],none⟩,
   ⟨some 12,.bsl 2 30 1 2 [(.int .i64 0),(.int .i64 0)] [(0,(.tmp 7)),(1,(.tmp 11))],none⟩,
   ⟨some 13,.call 90 [(.tmp 12)],none⟩,
   ⟨some 4,.mov (.tmp 13),none⟩] [(0,2),(1,2),(0,3),(1,3),(0,4),(1,4)])
  (.seq
   (.reg [] [⟨some 14,.mov (.tmp 4),none⟩,
    ⟨some 15,.cmp .neq (.tmp 14) (.cst (.d (.int .i64 0))),none⟩])
   (.cond (.tmp 15)
   (.seq
    (.reg [] [⟨some 16,.build [(.d (.int .i64 0)),(.d (.int .i64 0)),(.d (.int .i64 0)),(.d (.int .i64 0)),(.d (.int .u8 0)),(.d (.int .u8 0)),(.d (.int .u8 0)),(.d (.int .u8 0)),(.d (.int .u8 0)),(.d (.int .u8 0)),(.d (.int .u8 0)),(.d (.int .u8 0)),(.d (.int .u8 0)),(.d (.int .u8 0)),(.d (.int .u8 0)),(.d (.int .u8 0)),(.d (.int .u8 0)),(.d (.int .u8 0)),(.d (.int .u8 0)),(.d (.int .u8 0)),(.d (.bool false)),(.nils 1)] [],none⟩,
     ⟨some 17,.mov (.tmp 4),none⟩,
     ⟨none,.st 22 (.tmp 2) (.tmp 16),none⟩,
     ⟨some 3,.mov (.tmp 17),none⟩])
    .ret)
   .skip)))
  (.seq
  (.reg [3] [⟨some 18,.ld true 22 (.tmp 1),none⟩,
   ⟨some 19,.call 93 [(.tmp 18)],none⟩,
   ⟨some 5,.alloc 3 [(.d (.int .i64 0)),(.d (.int .i64 0)),(.d (.int .i64 0)),(.d (.int .i64 0)),(.d (.int .u8 0)),(.d (.int .u8 0)),(.d (.int .u8 0)),(.d (.int .u8 0)),(.d (.int .u8 0)),(.d (.int .u8 0)),(.d (.int .u8 0)),(.d (.int .u8 0)),(.d (.int .u8 0)),(.d (.int .u8 0)),(.d (.int .u8 0)),(.d (.int .u8 0)),(.d (.int .u8 0)),(.d (.int .u8 0)),(.d (.int .u8 0)),(.d (.int .u8 0)),(.d (.bool false)),(.nils 1)],none⟩,
   ⟨none,.st 22 (.tmp 5) (.tmp 19),none⟩])
  (.seq
   (.reg [] [⟨some 20,.fad 12 (.tmp 1),none⟩,
    ⟨some 21,.ld true 8 (.tmp 20),none⟩,
    ⟨some 22,.build [(.d (.int .u8 0)),(.d (.int .u8 0)),(.d (.int .u8 0)),(.d (.int .u8 0)),(.d (.int .u8 0)),(.d (.int .u8 0)),(.d (.int .u8 0)),(.d (.int .u8 0))] [],none⟩,
    ⟨some 23,.fad 4 (.tmp 5),none⟩,
    ⟨none,.st 8 (.tmp 23) (.tmp 21),none⟩,
    ⟨some 24,.fad 12 (.tmp 5),none⟩,
    ⟨none,.st 8 (.tmp 24) (.tmp 22),none⟩,
    ⟨some 25,.fad 20 (.tmp 5),none⟩,
    ⟨none,.st 1 (.tmp 25) (.cst (.d (.bool false))),none⟩])
   (.seq
   (.reg [] [⟨some 26,.ld true 22 (.tmp 5),none⟩,
    ⟨none,.st 22 (.tmp 2) (.tmp 26),none⟩,
    ⟨some 3,.mov (.cst (.d (.int .i64 0))),none⟩])
   .ret)))))⟩
def jr42:AFun:=⟨18,3,[.cell 2 22 true,.tmp 3],
 (.seq
 (.reg [0,1] [⟨some 1,.cbx 0 22 (.tmp 0),none⟩,
  ⟨some 2,.alloc 1 [(.d (.int .i64 0)),(.d (.int .i64 0)),(.d (.int .i64 0)),(.d (.int .i64 0)),(.d (.int .u8 0)),(.d (.int .u8 0)),(.d (.int .u8 0)),(.d (.int .u8 0)),(.d (.int .u8 0)),(.d (.int .u8 0)),(.d (.int .u8 0)),(.d (.int .u8 0)),(.d (.int .u8 0)),(.d (.int .u8 0)),(.d (.int .u8 0)),(.d (.int .u8 0)),(.d (.int .u8 0)),(.d (.int .u8 0)),(.d (.int .u8 0)),(.d (.int .u8 0)),(.d (.bool false)),(.nils 1)],none⟩,
  ⟨some 3,.mov (.cst (.d (.int .i64 0))),none⟩])
 (.seq
  (.seq
  (.reg [] [⟨some 5,.fad 20 (.tmp 1),none⟩,
   ⟨some 6,.ld false 1 (.tmp 5),none⟩,
   ⟨some 7,.not (.tmp 6),none⟩])
  (.cond (.tmp 7)
   (.seq
   (.reg [] [⟨some 8,.build [(.d (.int .i64 0)),(.d (.int .i64 0)),(.d (.int .i64 0)),(.d (.int .i64 0)),(.d (.int .u8 0)),(.d (.int .u8 0)),(.d (.int .u8 0)),(.d (.int .u8 0)),(.d (.int .u8 0)),(.d (.int .u8 0)),(.d (.int .u8 0)),(.d (.int .u8 0)),(.d (.int .u8 0)),(.d (.int .u8 0)),(.d (.int .u8 0)),(.d (.int .u8 0)),(.d (.int .u8 0)),(.d (.int .u8 0)),(.d (.int .u8 0)),(.d (.int .u8 0)),(.d (.bool false)),(.nils 1)] [],none⟩,
    ⟨none,.st 22 (.tmp 2) (.tmp 8),none⟩,
    ⟨some 3,.mov (.cst (.d (.int .i64 22))),none⟩])
   .ret)
   .skip))
  (.seq
  (.reg [2] [⟨some 9,.ld true 22 (.tmp 1),none⟩,
   ⟨some 10,.call 94 [(.tmp 9)],none⟩,
   ⟨some 4,.alloc 2 [(.d (.int .i64 0)),(.d (.int .i64 0)),(.d (.int .i64 0)),(.d (.int .i64 0)),(.d (.int .u8 0)),(.d (.int .u8 0)),(.d (.int .u8 0)),(.d (.int .u8 0)),(.d (.int .u8 0)),(.d (.int .u8 0)),(.d (.int .u8 0)),(.d (.int .u8 0)),(.d (.int .u8 0)),(.d (.int .u8 0)),(.d (.int .u8 0)),(.d (.int .u8 0)),(.d (.int .u8 0)),(.d (.int .u8 0)),(.d (.int .u8 0)),(.d (.int .u8 0)),(.d (.bool false)),(.nils 1)],none⟩,
   ⟨none,.st 22 (.tmp 4) (.tmp 10),none⟩])
  (.seq
   (.reg [] [⟨some 11,.fad 12 (.tmp 1),none⟩,
    ⟨some 12,.ld true 8 (.tmp 11),none⟩,
    ⟨some 13,.build [(.d (.int .u8 0)),(.d (.int .u8 0)),(.d (.int .u8 0)),(.d (.int .u8 0)),(.d (.int .u8 0)),(.d (.int .u8 0)),(.d (.int .u8 0)),(.d (.int .u8 0))] [],none⟩,
    ⟨some 14,.fad 4 (.tmp 4),none⟩,
    ⟨none,.st 8 (.tmp 14) (.tmp 12),none⟩,
    ⟨some 15,.fad 12 (.tmp 4),none⟩,
    ⟨none,.st 8 (.tmp 15) (.tmp 13),none⟩,
    ⟨some 16,.fad 20 (.tmp 4),none⟩,
    ⟨none,.st 1 (.tmp 16) (.cst (.d (.bool false))),none⟩])
   (.seq
   (.reg [] [⟨some 17,.ld true 22 (.tmp 4),none⟩,
    ⟨none,.st 22 (.tmp 2) (.tmp 17),none⟩,
    ⟨some 3,.mov (.cst (.d (.int .i64 0))),none⟩])
   .ret)))))⟩
def keq (q k:Ky):Bool:=(q.a==k.a&&(q.b==k.b&&(q.c==k.c&&(q.d==k.d&&(q.e==k.e&&(q.f==k.f&&(q.g==k.g&&(q.h==k.h&&true))))))))
def bgE (a:Ac) (c:Bool) (q:Ky):Int:=firstOf [ckA a c,bif c then 22 else 0,bif keq q a.k then 9 else 0]
def fiE (a:Ac) (c:Bool):Int:=firstOf [ckA a c,bif !c then 22 else 0]
theorem c36 (a:Ac) (c:Bool) (q:Ky) (hl:a.u.length≤1048576):CallDet Tryz.prog 36 [.d (.agg [.int .i64 (a.b),.int .i64 (a.d),.int .i64 a.s,.int .i64 a.e,.int .u8 a.k.a,.int .u8 a.k.b,.int .u8 a.k.c,.int .u8 a.k.d,.int .u8 a.k.e,.int .u8 a.k.f,.int .u8 a.k.g,.int .u8 a.k.h,.int .u8 a.n.a,.int .u8 a.n.b,.int .u8 a.n.c,.int .u8 a.n.d,.int .u8 a.n.e,.int .u8 a.n.f,.int .u8 a.n.g,.int .u8 a.n.h,.bool c,.slice 1 (ints a.u)]),.d (.agg [.int .u8 q.a,.int .u8 q.b,.int .u8 q.c,.int .u8 q.d,.int .u8 q.e,.int .u8 q.f,.int .u8 q.g,.int .u8 q.h])] (bif bgE a c q != 0 then [.agg [.int .i64 0,.int .i64 0,.int .i64 0,.int .i64 0,.int .u8 0,.int .u8 0,.int .u8 0,.int .u8 0,.int .u8 0,.int .u8 0,.int .u8 0,.int .u8 0,.int .u8 0,.int .u8 0,.int .u8 0,.int .u8 0,.int .u8 0,.int .u8 0,.int .u8 0,.int .u8 0,.bool false,.slice 1 []],.int .i64 (bgE a c q)] else [.agg [.int .i64 (a.b),.int .i64 (a.d),.int .i64 a.s,.int .i64 a.e,.int .u8 a.k.a,.int .u8 a.k.b,.int .u8 a.k.c,.int .u8 a.k.d,.int .u8 a.k.e,.int .u8 a.k.f,.int .u8 a.k.g,.int .u8 a.k.h,.int .u8 q.a,.int .u8 q.b,.int .u8 q.c,.int .u8 q.d,.int .u8 q.e,.int .u8 q.f,.int .u8 q.g,.int .u8 q.h,.bool true,.slice 1 (ints a.u)],.int .i64 0]):=by
 have c25_:=c25 a c hl
 have c93_:=c93 a c hl
 have c90_:=c90 [ckA a c,bif c then 22 else 0,bif keq q a.k then 9 else 0] (by simp)
 rw [show firstOf [ckA a c,bif c then 22 else 0,bif keq q a.k then 9 else 0]=bgE a c q from rfl] at c90_
 by_cases h0:bgE a c q=0
 ·rw [h0] at c90_ ⊢
  refine call_of_vc (x:=jr36) (by kernel_rfl) rfl ?_
  refine ca c25_ ?_
  refine ca (c92 _ _) ?_
  refine ca (Exists.intro _ (And.intro rfl rfl)) ?_
  refine ca (c92 _ _) ?_
  refine sd ?_
  refine sd ?_
  refine ca c90_ ?_
  refine sd ?_
  refine ca c93_ ?_
  exact rfl
 ·rw [bne_t h0]
  refine call_of_vc (x:=jr36) (by kernel_rfl) rfl ?_
  refine ca c25_ ?_
  refine ca (c92 _ _) ?_
  refine ca (Exists.intro _ (And.intro rfl rfl)) ?_
  refine ca (c92 _ _) ?_
  refine sd ?_
  refine sd ?_
  refine ca c90_ ?_
  refine sd ?_
  refine b_ne (fun t1=>?_) (fun t1=>?_)
  exact rfl
  (exfalso; omega)
theorem c41 (a:Ac) (c:Bool) (q:Ky) (hl:a.u.length≤1048576) (hc:ckA a c=0):CallDet Tryz.prog 41 [.d (.agg [.int .i64 (a.b),.int .i64 (a.d),.int .i64 a.s,.int .i64 a.e,.int .u8 a.k.a,.int .u8 a.k.b,.int .u8 a.k.c,.int .u8 a.k.d,.int .u8 a.k.e,.int .u8 a.k.f,.int .u8 a.k.g,.int .u8 a.k.h,.int .u8 a.n.a,.int .u8 a.n.b,.int .u8 a.n.c,.int .u8 a.n.d,.int .u8 a.n.e,.int .u8 a.n.f,.int .u8 a.n.g,.int .u8 a.n.h,.bool c,.slice 1 (ints a.u)]),.d (.agg [.int .u8 q.a,.int .u8 q.b,.int .u8 q.c,.int .u8 q.d,.int .u8 q.e,.int .u8 q.f,.int .u8 q.g,.int .u8 q.h])] (bif bgE a c q != 0 then [.agg [.int .i64 0,.int .i64 0,.int .i64 0,.int .i64 0,.int .u8 0,.int .u8 0,.int .u8 0,.int .u8 0,.int .u8 0,.int .u8 0,.int .u8 0,.int .u8 0,.int .u8 0,.int .u8 0,.int .u8 0,.int .u8 0,.int .u8 0,.int .u8 0,.int .u8 0,.int .u8 0,.bool false,.slice 1 []],.int .i64 (bgE a c q)] else [.agg [.int .i64 (a.b),.int .i64 (a.d),.int .i64 a.s,.int .i64 a.e,.int .u8 a.k.a,.int .u8 a.k.b,.int .u8 a.k.c,.int .u8 a.k.d,.int .u8 a.k.e,.int .u8 a.k.f,.int .u8 a.k.g,.int .u8 a.k.h,.int .u8 q.a,.int .u8 q.b,.int .u8 q.c,.int .u8 q.d,.int .u8 q.e,.int .u8 q.f,.int .u8 q.g,.int .u8 q.h,.bool true,.slice 1 (ints a.u)],.int .i64 0]):=by
 have c94_:=c94 a c hl
 have e:bgE a c q=bif c then 22 else bif keq q a.k then 9 else 0:=by
  rw [bgE,hc]
  cases c <;> cases keq q a.k <;> rfl
 rw [e]
 cases c with
 | true =>
  refine call_of_vc (x:=jr41) (by kernel_rfl) rfl ?_
  exact rfl
 | false =>
  cases hq:keq q a.k with
  | true =>
   refine call_of_vc (x:=jr41) (by kernel_rfl) rfl ?_
   refine ca (Exists.intro _ (And.intro rfl rfl)) ?_
   refine b_intro (fun t1=>?_) (fun t1=>?_)
   replace t1:(Ky.a q==Ky.a (Ac.k a)&&(Ky.b q==Ky.b (Ac.k a)&&(Ky.c q==Ky.c (Ac.k a)&&(Ky.d q==Ky.d (Ac.k a)&&(Ky.e q==Ky.e (Ac.k a)&&(Ky.f q==Ky.f (Ac.k a)&&(Ky.g q==Ky.g (Ac.k a)&&(Ky.h q==Ky.h (Ac.k a)&&true))))))))=true:=t1
   exact rfl
   replace t1:(Ky.a q==Ky.a (Ac.k a)&&(Ky.b q==Ky.b (Ac.k a)&&(Ky.c q==Ky.c (Ac.k a)&&(Ky.d q==Ky.d (Ac.k a)&&(Ky.e q==Ky.e (Ac.k a)&&(Ky.f q==Ky.f (Ac.k a)&&(Ky.g q==Ky.g (Ac.k a)&&(Ky.h q==Ky.h (Ac.k a)&&true))))))))=false:=t1
   refine ca c94_ ?_
   rotate_left
   exact absurd (hq.symm.trans t1) (by decide)
  | false =>
   refine call_of_vc (x:=jr41) (by kernel_rfl) rfl ?_
   refine ca (Exists.intro _ (And.intro rfl rfl)) ?_
   refine b_intro (fun t1=>?_) (fun t1=>?_)
   replace t1:(Ky.a q==Ky.a (Ac.k a)&&(Ky.b q==Ky.b (Ac.k a)&&(Ky.c q==Ky.c (Ac.k a)&&(Ky.d q==Ky.d (Ac.k a)&&(Ky.e q==Ky.e (Ac.k a)&&(Ky.f q==Ky.f (Ac.k a)&&(Ky.g q==Ky.g (Ac.k a)&&(Ky.h q==Ky.h (Ac.k a)&&true))))))))=true:=t1
   rotate_left
   replace t1:(Ky.a q==Ky.a (Ac.k a)&&(Ky.b q==Ky.b (Ac.k a)&&(Ky.c q==Ky.c (Ac.k a)&&(Ky.d q==Ky.d (Ac.k a)&&(Ky.e q==Ky.e (Ac.k a)&&(Ky.f q==Ky.f (Ac.k a)&&(Ky.g q==Ky.g (Ac.k a)&&(Ky.h q==Ky.h (Ac.k a)&&true))))))))=false:=t1
   refine ca c94_ ?_
   exact rfl
   exact absurd (hq.symm.trans t1) (by decide)
theorem c37 (a:Ac) (c:Bool) (hl:a.u.length≤1048576):CallDet Tryz.prog 37 [.d (.agg [.int .i64 (a.b),.int .i64 (a.d),.int .i64 a.s,.int .i64 a.e,.int .u8 a.k.a,.int .u8 a.k.b,.int .u8 a.k.c,.int .u8 a.k.d,.int .u8 a.k.e,.int .u8 a.k.f,.int .u8 a.k.g,.int .u8 a.k.h,.int .u8 a.n.a,.int .u8 a.n.b,.int .u8 a.n.c,.int .u8 a.n.d,.int .u8 a.n.e,.int .u8 a.n.f,.int .u8 a.n.g,.int .u8 a.n.h,.bool c,.slice 1 (ints a.u)])] (bif fiE a c != 0 then [.agg [.int .i64 0,.int .i64 0,.int .i64 0,.int .i64 0,.int .u8 0,.int .u8 0,.int .u8 0,.int .u8 0,.int .u8 0,.int .u8 0,.int .u8 0,.int .u8 0,.int .u8 0,.int .u8 0,.int .u8 0,.int .u8 0,.int .u8 0,.int .u8 0,.int .u8 0,.int .u8 0,.bool false,.slice 1 []],.int .i64 (fiE a c)] else [.agg [.int .i64 (a.b),.int .i64 (a.d),.int .i64 a.s,.int .i64 a.e,.int .u8 a.n.a,.int .u8 a.n.b,.int .u8 a.n.c,.int .u8 a.n.d,.int .u8 a.n.e,.int .u8 a.n.f,.int .u8 a.n.g,.int .u8 a.n.h,.int .u8 0,.int .u8 0,.int .u8 0,.int .u8 0,.int .u8 0,.int .u8 0,.int .u8 0,.int .u8 0,.bool false,.slice 1 (ints a.u)],.int .i64 0]):=by
 have c25_:=c25 a c hl
 have c93_:=c93 a c hl
 have c90_:=c90 [ckA a c,bif !c then 22 else 0] (by simp)
 rw [show firstOf [ckA a c,bif !c then 22 else 0]=fiE a c from rfl] at c90_
 by_cases h0:fiE a c=0
 ·rw [h0] at c90_ ⊢
  refine call_of_vc (x:=jr37) (by kernel_rfl) rfl ?_
  refine ca c25_ ?_
  refine ca (c92 _ _) ?_
  refine sd ?_
  refine sd ?_
  refine ca c90_ ?_
  refine sd ?_
  refine ca c93_ ?_
  exact rfl
 ·rw [bne_t h0]
  refine call_of_vc (x:=jr37) (by kernel_rfl) rfl ?_
  refine ca c25_ ?_
  refine ca (c92 _ _) ?_
  refine sd ?_
  refine sd ?_
  refine ca c90_ ?_
  refine sd ?_
  refine b_ne (fun t1=>?_) (fun t1=>?_)
  exact rfl
  (exfalso; omega)
theorem c42 (a:Ac) (c:Bool) (hl:a.u.length≤1048576) (hc:ckA a c=0):CallDet Tryz.prog 42 [.d (.agg [.int .i64 (a.b),.int .i64 (a.d),.int .i64 a.s,.int .i64 a.e,.int .u8 a.k.a,.int .u8 a.k.b,.int .u8 a.k.c,.int .u8 a.k.d,.int .u8 a.k.e,.int .u8 a.k.f,.int .u8 a.k.g,.int .u8 a.k.h,.int .u8 a.n.a,.int .u8 a.n.b,.int .u8 a.n.c,.int .u8 a.n.d,.int .u8 a.n.e,.int .u8 a.n.f,.int .u8 a.n.g,.int .u8 a.n.h,.bool c,.slice 1 (ints a.u)])] (bif fiE a c != 0 then [.agg [.int .i64 0,.int .i64 0,.int .i64 0,.int .i64 0,.int .u8 0,.int .u8 0,.int .u8 0,.int .u8 0,.int .u8 0,.int .u8 0,.int .u8 0,.int .u8 0,.int .u8 0,.int .u8 0,.int .u8 0,.int .u8 0,.int .u8 0,.int .u8 0,.int .u8 0,.int .u8 0,.bool false,.slice 1 []],.int .i64 (fiE a c)] else [.agg [.int .i64 (a.b),.int .i64 (a.d),.int .i64 a.s,.int .i64 a.e,.int .u8 a.n.a,.int .u8 a.n.b,.int .u8 a.n.c,.int .u8 a.n.d,.int .u8 a.n.e,.int .u8 a.n.f,.int .u8 a.n.g,.int .u8 a.n.h,.int .u8 0,.int .u8 0,.int .u8 0,.int .u8 0,.int .u8 0,.int .u8 0,.int .u8 0,.int .u8 0,.bool false,.slice 1 (ints a.u)],.int .i64 0]):=by
 have c94_:=c94 a c hl
 have e:fiE a c=bif !c then 22 else 0:=by
  rw [fiE,hc]
  cases c <;> rfl
 rw [e]
 cases c with
 | true =>
  refine call_of_vc (x:=jr42) (by kernel_rfl) rfl ?_
  refine ca c94_ ?_
  exact rfl
 | false =>
  refine call_of_vc (x:=jr42) (by kernel_rfl) rfl ?_
  exact rfl
end Vc
set_option maxRecDepth 10000
set_option maxHeartbeats 4000000
namespace Vc
open Go Go.Proofs
def jr39:AFun:=⟨18,3,[.cell 2 16 true,.tmp 3],
 (.seq
 (.reg [0,1] [⟨some 1,.cbx 0 10 (.tmp 0),none⟩,
  ⟨some 2,.alloc 1 [(.d (.int .u8 0)),(.d (.int .u8 0)),(.d (.int .u8 0)),(.d (.int .u8 0)),(.d (.int .u8 0)),(.d (.int .u8 0)),(.d (.int .u8 0)),(.d (.int .u8 0)),(.d (.int .u8 0)),(.d (.int .u8 0)),(.d (.int .u8 0)),(.d (.int .u8 0)),(.d (.int .u8 0)),(.d (.int .u8 0)),(.d (.int .u8 0)),(.d (.int .u8 0))],none⟩,
  ⟨some 3,.mov (.cst (.d (.int .i64 0))),none⟩])
 (.seq
  (.seq
  (.reg [] [⟨some 5,.ld true 10 (.tmp 1),none⟩,
   ⟨some 6,.call 99 [(.tmp 5)],none⟩,
   ⟨some 4,.mov (.tmp 6),none⟩])
  (.seq
   (.reg [] [⟨some 7,.mov (.tmp 4),none⟩,
    ⟨some 8,.cmp .neq (.tmp 7) (.cst (.d (.int .i64 0))),none⟩])
   (.cond (.tmp 8)
   (.seq
    (.reg [] [⟨some 9,.build [(.d (.int .u8 0)),(.d (.int .u8 0)),(.d (.int .u8 0)),(.d (.int .u8 0)),(.d (.int .u8 0)),(.d (.int .u8 0)),(.d (.int .u8 0)),(.d (.int .u8 0)),(.d (.int .u8 0)),(.d (.int .u8 0)),(.d (.int .u8 0)),(.d (.int .u8 0)),(.d (.int .u8 0)),(.d (.int .u8 0)),(.d (.int .u8 0)),(.d (.int .u8 0))] [],none⟩,
     ⟨some 10,.mov (.tmp 4),none⟩,
     ⟨none,.st 16 (.tmp 2) (.tmp 9),none⟩,
     ⟨some 3,.mov (.tmp 10),none⟩])
    .ret)
   .skip)))
  (.seq
  (.regd [2] [⟨some 11,.ld true 10 (.tmp 1),none⟩,
   ⟨some 12,.calln 2 5 1 107 [(.tmp 11)],none⟩,
   ⟨some 13,.fad 2 (.tmp 1),none⟩,
   ⟨some 14,.sla 8 (.tmp 13) none none,none⟩,
   ⟨some 15,.app 2 5 1 1 (.tmp 12) (.tmp 14),none⟩,
   ⟨some 16,.s2a 16 (.tmp 15),none⟩,
   ⟨some 17,.ld true 16 (.tmp 16),none⟩,
   ⟨none,.st 16 (.tmp 2) (.tmp 17),none⟩,
   ⟨some 3,.mov (.cst (.d (.int .i64 0))),none⟩] [(0,2),(1,2),(0,3),(1,3)])
  .ret)))⟩
theorem c107r (n m:Int) (q:Ky) (h:0≤n∧n≤1000000000) (h2:0≤m∧m≤1000000000):CallRow Tryz.prog 107 [.d (.agg [.int .i64 n,.int .i64 m,.int .u8 q.a,.int .u8 q.b,.int .u8 q.c,.int .u8 q.d,.int .u8 q.e,.int .u8 q.f,.int .u8 q.g,.int .u8 q.h])] 5 1 (bys (o4 n++o4 m)):=by
 have c143_1:=c143 n h
 have c143_2:=c143 m h2
 refine callRow_of_vc (x:=jr107) (by kernel_rfl) rfl ?_
 refine ca c143_1 ?_
 refine ca c143_2 ?_
 refine an ?_ ?_
 refine an ?_ ?_
 exact rfl
 refine an ?_ ?_
 (show (0:Nat) < (4:Nat); omega)
 exact rfl
 refine an ?_ ?_
 refine an ?_ ?_
 exact rfl
 refine an ?_ ?_
 (show (0:Nat) < (4:Nat); omega)
 exact rfl
 refine sd ?_
 refine sd ?_
 refine an ?_ ?_
 refine an ?_ ?_
 exact rfl
 refine an ?_ ?_
 exact rfl
 refine an ?_ ?_
 (show (0:Nat) < (1:Nat)+(1:Nat)+(1:Nat)+(1:Nat); omega)
 refine an ?_ ?_
 (show ((1:Nat)+(1:Nat)+(1:Nat)+(1:Nat)+((1:Nat)+(1:Nat)+(1:Nat)+(1:Nat))) * (1:Nat)≤(2:Nat) ^ (47:Nat); omega)
 (show (1:Nat)+(1:Nat)+(1:Nat)+(1:Nat)+((1:Nat)+(1:Nat)+(1:Nat)+(1:Nat))≤(2:Nat) ^ (47:Nat); omega)
 rotate_left
 exact .inl ⟨3,⟨rfl,rfl⟩,rfl⟩
theorem c39 (n m:Int) (q:Ky):CallDet Tryz.prog 39 [.d (.agg [.int .i64 n,.int .i64 m,.int .u8 q.a,.int .u8 q.b,.int .u8 q.c,.int .u8 q.d,.int .u8 q.e,.int .u8 q.f,.int .u8 q.g,.int .u8 q.h])] (bif ckT n m != 0 then [.agg [.int .u8 0,.int .u8 0,.int .u8 0,.int .u8 0,.int .u8 0,.int .u8 0,.int .u8 0,.int .u8 0,.int .u8 0,.int .u8 0,.int .u8 0,.int .u8 0,.int .u8 0,.int .u8 0,.int .u8 0,.int .u8 0],.int .i64 (ckT n m)] else [.agg [.int .u8 (n / 16777216 % 256),.int .u8 (n / 65536 % 256),.int .u8 (n / 256 % 256),.int .u8 (n % 256),.int .u8 (m / 16777216 % 256),.int .u8 (m / 65536 % 256),.int .u8 (m / 256 % 256),.int .u8 (m % 256),.int .u8 q.a,.int .u8 q.b,.int .u8 q.c,.int .u8 q.d,.int .u8 q.e,.int .u8 q.f,.int .u8 q.g,.int .u8 q.h],.int .i64 0]):=by
 have c99_:=c99 n m q
 by_cases h0:ckT n m=0
 ·obtain ⟨h1,h2⟩:=ckT_b h0
  have c107r_:=c107r n m q (by omega) (by omega)
  rw [h0] at c99_ ⊢
  refine call_of_vc (x:=jr39) (by kernel_rfl) rfl ?_
  refine ca c99_ ?_
  refine sd ?_
  refine ca (c107r_) ?_
  refine an ?_ ?_
  refine an ?_ ?_
  (show (0:Int)≤(0:Int); omega)
  refine an ?_ ?_
  (show (0:Int)≤(↑(8:Nat):Int); omega)
  refine an ?_ ?_
  (show (↑(8:Nat):Int)≤(↑(8:Nat):Int); omega)
  (show (0:Nat)+(2:Nat)+(8:Nat)≤(1:Nat)+(1:Nat)+(1:Nat)+(1:Nat)+(1:Nat)+(1:Nat)+(1:Nat)+(1:Nat)+(1:Nat)+(1:Nat); omega)
  refine sd ?_
  refine an ?_ ?_
  refine an ?_ ?_
  exact rfl
  refine an ?_ ?_
  exact rfl
  refine an ?_ ?_
  exact rfl
  refine an ?_ ?_
  (show ((1:Nat)+(1:Nat)+(1:Nat)+(1:Nat)+(1:Nat)+(1:Nat)+(1:Nat)+(1:Nat)+((1:Nat)+(1:Nat)+(1:Nat)+(1:Nat)+(1:Nat)+(1:Nat)+(1:Nat)+(1:Nat))) * (1:Nat)≤(2:Nat) ^ (47:Nat); omega)
  (show (1:Nat)+(1:Nat)+(1:Nat)+(1:Nat)+(1:Nat)+(1:Nat)+(1:Nat)+(1:Nat)+((1:Nat)+(1:Nat)+(1:Nat)+(1:Nat)+(1:Nat)+(1:Nat)+(1:Nat)+(1:Nat))≤(2:Nat) ^ (47:Nat); omega)
  refine sd ?_
  refine an ?_ ?_
  (show (16:Nat)≤(1:Nat)+(1:Nat)+(1:Nat)+(1:Nat)+(1:Nat)+(1:Nat)+(1:Nat)+(1:Nat)+(1:Nat)+(1:Nat)+(1:Nat)+(1:Nat)+(1:Nat)+(1:Nat)+(1:Nat)+(1:Nat); omega)
  exact rfl
 ·rw [bne_t h0]
  refine call_of_vc (x:=jr39) (by kernel_rfl) rfl ?_
  refine ca c99_ ?_
  refine sd ?_
  refine b_ne (fun t1=>?_) (fun t1=>?_)
  exact rfl
  (exfalso; omega)
end Vc
set_option maxRecDepth 10000
set_option maxHeartbeats 4000000
namespace Vc
open Go Go.Proofs
theorem wrap_i {b:Int} (h:0≤b∧b≤255):IntKind.wrap .i64 b=b:=IntWalk.i64_in _ ⟨by omega,by omega⟩
theorem shl_f (n:Int) (h:0≤n∧n≤16777215):IntKind.i64=IntKind.i64∧shfF .shl .i64 n 8=some (n * 256):=by
 refine ⟨rfl,?_⟩
 simp only [shfF]
 rw [if_neg (by decide),show (2:Int) ^ (min (Int.toNat 8) IntKind.i64.bits)=256 by decide,IntWalk.i64_in _ ⟨by omega,by omega⟩]
theorem or_f {a b:Int} (ha:0≤a∧a≤16777215) (hb:0≤b∧b≤255):IntKind.i64=IntKind.i64∧IntKind.i64=IntKind.i64∧bitF .or .i64 (a * 256) b=some (a * 256+b):=by
 refine ⟨rfl,rfl,?_⟩
 obtain ⟨x,rfl⟩:=Int.eq_ofNat_of_zero_le ha.1
 obtain ⟨y,rfl⟩:=Int.eq_ofNat_of_zero_le hb.1
 have h1:BitVec.ofInt 64 ((x:Int) * 256)=BitVec.ofNat 64 (x * 256):=by
  rw [show (x:Int) * 256=((x * 256:Nat):Int) by simp]; exact BitVec.ofInt_natCast 64 (x * 256)
 have h2:BitVec.ofInt 64 (y:Int)=BitVec.ofNat 64 y:=BitVec.ofInt_natCast 64 y
 have h3:x * 256 ||| y=x * 256+y:=by
  have:=Nat.shiftLeft_add_eq_or_of_lt (b:=y) (i:=8) (by omega) x
  rw [Nat.shiftLeft_eq] at this
  exact this.symm
 simp only [bitF]
 rw [show IntKind.i64.bits=64 from rfl,h1,h2,BitVec.toNat_or,BitVec.toNat_ofNat,BitVec.toNat_ofNat,Nat.mod_eq_of_lt (by omega),Nat.mod_eq_of_lt (by omega),h3,IntWalk.i64_in _ ⟨by omega,by omega⟩]
 simp
def nu (a b c d:Int):Nat→Int
 | 0=>0
 | 1=>0 * 256+a
 | 2=>(0 * 256+a) * 256+b
 | 3=>((0 * 256+a) * 256+b) * 256+c
 | _+4=>(((0 * 256+a) * 256+b) * 256+c) * 256+d
theorem nu_b (a b c d:Int) (q0:0≤a∧a≤255) (q1:0≤b∧b≤255) (q2:0≤c∧c≤255) (q3:0≤d∧d≤255):∀ j:Nat,j < 4→0≤nu a b c d j∧nu a b c d j≤16777215
 | 0,_=>⟨by simp [nu],by simp [nu]⟩
 | 1,_=>by simp only [nu]; omega
 | 2,_=>by simp only [nu]; omega
 | 3,_=>by simp only [nu]; omega
 | _+4,h=>absurd h (by omega)
theorem c108 (a b c d:Int) (q0:0≤a∧a≤255) (q1:0≤b∧b≤255) (q2:0≤c∧c≤255) (q3:0≤d∧d≤255):CallDet Tryz.prog 108 [.d (.agg [.int .u8 a,.int .u8 b,.int .u8 c,.int .u8 d])] [.int .i64 (nu a b c d 4)]:=by
 refine call_of_vc (x:=jr108) (by kernel_rfl) rfl ?_
 rotate_left
 refine loop_st (fun k:Nat=>⟨[(1,.ptr 0 0),(3,.d (.int .i64 (nu a b c d k))),(5,.d (.int .i64 ((k:Nat))))],[.cbox [.int .u8 a,.int .u8 b,.int .u8 c,.int .u8 d]]⟩) (fun k=>k≤4) (fun k=>4 - k) 0 rfl (Nat.zero_le _) ?_
 intro k hk
 have hk:k≤4:=hk
 dsimp only
 match k,hk with
 | 0,_ =>
  have e:=q0
  have hx:=nu_b a b c d q0 q1 q2 q3 0 (by decide)
  have e1:=shl_f (nu a b c d 0) hx
  have e2:=or_f (a:=nu a b c d 0) (b:=IntKind.wrap .i64 a) hx (wrap_b q0)
  have fin:∃ a':Nat,(a'≤4∧4 - a' < 4 - 0)∧(⟨[(1,.ptr 0 0),(3,.d (.int .i64 (nu a b c d 0 * 256+IntKind.wrap .i64 a))),(5,.d (.int .i64 (((0:Nat):Int)+1)))],[.cbox [.int .u8 a,.int .u8 b,.int .u8 c,.int .u8 d]]⟩:St)=⟨[(1,.ptr 0 0),(3,.d (.int .i64 (nu a b c d a'))),(5,.d (.int .i64 ((a':Nat))))],[.cbox [.int .u8 a,.int .u8 b,.int .u8 c,.int .u8 d]]⟩:=⟨1,⟨by decide,by decide⟩,by rw [show nu a b c d 0 * 256+IntKind.wrap .i64 a=nu a b c d 1 by rw [wrap_i q0]; rfl]; rfl⟩
  refine sd ?_
  refine ca e1 ?_
  refine an ?_ ?_
  refine an ?_ ?_
  (show (0:Int)≤(↑(0:Nat):Int); omega)
  (show (↑(0:Nat):Int) < (↑(4:Nat):Int); omega)
  refine ca rfl ?_
  rotate_left
  refine ca e2 ?_
  refine ar_add ?_ ?_
  refine an ?_ ?_
  (show (-9223372036854775808:Int)≤(↑(0:Nat):Int)+(1:Int); omega)
  (show (↑(0:Nat):Int)+(1:Int)≤(9223372036854775807:Int); omega)
  rotate_left
  all_goals exact fin
 | 1,_ =>
  have e:=q1
  have hx:=nu_b a b c d q0 q1 q2 q3 1 (by decide)
  have e1:=shl_f (nu a b c d 1) hx
  have e2:=or_f (a:=nu a b c d 1) (b:=IntKind.wrap .i64 b) hx (wrap_b q1)
  have fin:∃ a':Nat,(a'≤4∧4 - a' < 4 - 1)∧(⟨[(1,.ptr 0 0),(3,.d (.int .i64 (nu a b c d 1 * 256+IntKind.wrap .i64 b))),(5,.d (.int .i64 (((1:Nat):Int)+1)))],[.cbox [.int .u8 a,.int .u8 b,.int .u8 c,.int .u8 d]]⟩:St)=⟨[(1,.ptr 0 0),(3,.d (.int .i64 (nu a b c d a'))),(5,.d (.int .i64 ((a':Nat))))],[.cbox [.int .u8 a,.int .u8 b,.int .u8 c,.int .u8 d]]⟩:=⟨2,⟨by decide,by decide⟩,by rw [show nu a b c d 1 * 256+IntKind.wrap .i64 b=nu a b c d 2 by rw [wrap_i q1]; rfl]; rfl⟩
  refine sd ?_
  refine ca e1 ?_
  refine an ?_ ?_
  refine an ?_ ?_
  (show (0:Int)≤(↑(1:Nat):Int); omega)
  (show (↑(1:Nat):Int) < (↑(4:Nat):Int); omega)
  refine ca rfl ?_
  rotate_left
  refine ca e2 ?_
  refine ar_add ?_ ?_
  refine an ?_ ?_
  (show (-9223372036854775808:Int)≤(↑(1:Nat):Int)+(1:Int); omega)
  (show (↑(1:Nat):Int)+(1:Int)≤(9223372036854775807:Int); omega)
  rotate_left
  all_goals exact fin
 | 2,_ =>
  have e:=q2
  have hx:=nu_b a b c d q0 q1 q2 q3 2 (by decide)
  have e1:=shl_f (nu a b c d 2) hx
  have e2:=or_f (a:=nu a b c d 2) (b:=IntKind.wrap .i64 c) hx (wrap_b q2)
  have fin:∃ a':Nat,(a'≤4∧4 - a' < 4 - 2)∧(⟨[(1,.ptr 0 0),(3,.d (.int .i64 (nu a b c d 2 * 256+IntKind.wrap .i64 c))),(5,.d (.int .i64 (((2:Nat):Int)+1)))],[.cbox [.int .u8 a,.int .u8 b,.int .u8 c,.int .u8 d]]⟩:St)=⟨[(1,.ptr 0 0),(3,.d (.int .i64 (nu a b c d a'))),(5,.d (.int .i64 ((a':Nat))))],[.cbox [.int .u8 a,.int .u8 b,.int .u8 c,.int .u8 d]]⟩:=⟨3,⟨by decide,by decide⟩,by rw [show nu a b c d 2 * 256+IntKind.wrap .i64 c=nu a b c d 3 by rw [wrap_i q2]; rfl]; rfl⟩
  refine sd ?_
  refine ca e1 ?_
  refine an ?_ ?_
  refine an ?_ ?_
  (show (0:Int)≤(↑(2:Nat):Int); omega)
  (show (↑(2:Nat):Int) < (↑(4:Nat):Int); omega)
  refine ca rfl ?_
  rotate_left
  refine ca e2 ?_
  refine ar_add ?_ ?_
  refine an ?_ ?_
  (show (-9223372036854775808:Int)≤(↑(2:Nat):Int)+(1:Int); omega)
  (show (↑(2:Nat):Int)+(1:Int)≤(9223372036854775807:Int); omega)
  rotate_left
  all_goals exact fin
 | 3,_ =>
  have e:=q3
  have hx:=nu_b a b c d q0 q1 q2 q3 3 (by decide)
  have e1:=shl_f (nu a b c d 3) hx
  have e2:=or_f (a:=nu a b c d 3) (b:=IntKind.wrap .i64 d) hx (wrap_b q3)
  have fin:∃ a':Nat,(a'≤4∧4 - a' < 4 - 3)∧(⟨[(1,.ptr 0 0),(3,.d (.int .i64 (nu a b c d 3 * 256+IntKind.wrap .i64 d))),(5,.d (.int .i64 (((3:Nat):Int)+1)))],[.cbox [.int .u8 a,.int .u8 b,.int .u8 c,.int .u8 d]]⟩:St)=⟨[(1,.ptr 0 0),(3,.d (.int .i64 (nu a b c d a'))),(5,.d (.int .i64 ((a':Nat))))],[.cbox [.int .u8 a,.int .u8 b,.int .u8 c,.int .u8 d]]⟩:=⟨4,⟨by decide,by decide⟩,by rw [show nu a b c d 3 * 256+IntKind.wrap .i64 d=nu a b c d 4 by rw [wrap_i q3]; rfl]; rfl⟩
  refine sd ?_
  refine ca e1 ?_
  refine an ?_ ?_
  refine an ?_ ?_
  (show (0:Int)≤(↑(3:Nat):Int); omega)
  (show (↑(3:Nat):Int) < (↑(4:Nat):Int); omega)
  refine ca rfl ?_
  rotate_left
  refine ca e2 ?_
  refine ar_add ?_ ?_
  refine an ?_ ?_
  (show (-9223372036854775808:Int)≤(↑(3:Nat):Int)+(1:Int); omega)
  (show (↑(3:Nat):Int)+(1:Int)≤(9223372036854775807:Int); omega)
  rotate_left
  all_goals exact fin
 | 4,_ =>
  refine sd ?_
  exact rfl
 | _+5,h=>exact absurd h (by omega)
theorem c111 (a b c d:Int) (q0:0≤a∧a≤255) (q1:0≤b∧b≤255) (q2:0≤c∧c≤255) (q3:0≤d∧d≤255):CallDet Tryz.prog 111 [.d (.slice 1 (bys [a,b,c,d]))] [.int .i64 (nu a b c d 4)]:=by
 refine call_of_vc (x:=jr111) (by kernel_rfl) rfl ?_
 rotate_left
 refine loop_st (fun k:Nat=>⟨[(0,.d (.slice 1 (bys [a,b,c,d]))),(3,.d (.int .i64 (nu a b c d k))),(4,.d (.int .i64 ((k:Nat))))],[]⟩) (fun k=>k≤4) (fun k=>4 - k) 0 rfl (Nat.zero_le _) ?_
 intro k hk
 have hk:k≤4:=hk
 dsimp only
 match k,hk with
 | 0,_ =>
  have hx:=nu_b a b c d q0 q1 q2 q3 0 (by decide)
  have hw:=wrap_b q0
  have fin:∃ a':Nat,(a'≤4∧4 - a' < 4 - 0)∧(⟨[(0,.d (.slice 1 (bys [a,b,c,d]))),(3,.d (.int .i64 (256 * nu a b c d 0+IntKind.wrap .i64 a))),(4,.d (.int .i64 (((0:Nat):Int)+1)))],[]⟩:St)=⟨[(0,.d (.slice 1 (bys [a,b,c,d]))),(3,.d (.int .i64 (nu a b c d a'))),(4,.d (.int .i64 ((a':Nat))))],[]⟩:=⟨1,⟨by decide,by decide⟩,by rw [show 256 * nu a b c d 0+IntKind.wrap .i64 a=nu a b c d 1 by rw [wrap_i q0,Int.mul_comm]; rfl]; rfl⟩
  have hz:(bys [a,b,c,d])[(((0:Nat):Int)).toNat]?=some (.int .u8 a):=rfl
  refine sd ?_
  refine ar_mul ?_ ?_
  refine an ?_ ?_
  (show (-9223372036854775808:Int)≤(256:Int) * nu a b c d (0:Nat); omega)
  (show (256:Int) * nu a b c d (0:Nat)≤(9223372036854775807:Int); omega)
  refine ix_at hz ?_ ?_
  (show (0:Int)≤(↑(0:Nat):Int); omega)
  refine ca rfl ?_
  refine ar_add ?_ ?_
  refine an ?_ ?_
  (show (-9223372036854775808:Int)≤(256:Int) * nu a b c d (0:Nat)+IntKind.wrap IntKind.i64 a; omega)
  (show (256:Int) * nu a b c d (0:Nat)+IntKind.wrap IntKind.i64 a≤(9223372036854775807:Int); omega)
  refine ar_add ?_ ?_
  refine an ?_ ?_
  (show (-9223372036854775808:Int)≤(↑(0:Nat):Int)+(1:Int); omega)
  (show (↑(0:Nat):Int)+(1:Int)≤(9223372036854775807:Int); omega)
  rotate_left
  all_goals exact fin
 | 1,_ =>
  have hx:=nu_b a b c d q0 q1 q2 q3 1 (by decide)
  have hw:=wrap_b q1
  have fin:∃ a':Nat,(a'≤4∧4 - a' < 4 - 1)∧(⟨[(0,.d (.slice 1 (bys [a,b,c,d]))),(3,.d (.int .i64 (256 * nu a b c d 1+IntKind.wrap .i64 b))),(4,.d (.int .i64 (((1:Nat):Int)+1)))],[]⟩:St)=⟨[(0,.d (.slice 1 (bys [a,b,c,d]))),(3,.d (.int .i64 (nu a b c d a'))),(4,.d (.int .i64 ((a':Nat))))],[]⟩:=⟨2,⟨by decide,by decide⟩,by rw [show 256 * nu a b c d 1+IntKind.wrap .i64 b=nu a b c d 2 by rw [wrap_i q1,Int.mul_comm]; rfl]; rfl⟩
  have hz:(bys [a,b,c,d])[(((1:Nat):Int)).toNat]?=some (.int .u8 b):=rfl
  refine sd ?_
  refine ar_mul ?_ ?_
  refine an ?_ ?_
  (show (-9223372036854775808:Int)≤(256:Int) * nu a b c d (1:Nat); omega)
  (show (256:Int) * nu a b c d (1:Nat)≤(9223372036854775807:Int); omega)
  refine ix_at hz ?_ ?_
  (show (0:Int)≤(↑(1:Nat):Int); omega)
  refine ca rfl ?_
  refine ar_add ?_ ?_
  refine an ?_ ?_
  (show (-9223372036854775808:Int)≤(256:Int) * nu a b c d (1:Nat)+IntKind.wrap IntKind.i64 b; omega)
  (show (256:Int) * nu a b c d (1:Nat)+IntKind.wrap IntKind.i64 b≤(9223372036854775807:Int); omega)
  refine ar_add ?_ ?_
  refine an ?_ ?_
  (show (-9223372036854775808:Int)≤(↑(1:Nat):Int)+(1:Int); omega)
  (show (↑(1:Nat):Int)+(1:Int)≤(9223372036854775807:Int); omega)
  rotate_left
  all_goals exact fin
 | 2,_ =>
  have hx:=nu_b a b c d q0 q1 q2 q3 2 (by decide)
  have hw:=wrap_b q2
  have fin:∃ a':Nat,(a'≤4∧4 - a' < 4 - 2)∧(⟨[(0,.d (.slice 1 (bys [a,b,c,d]))),(3,.d (.int .i64 (256 * nu a b c d 2+IntKind.wrap .i64 c))),(4,.d (.int .i64 (((2:Nat):Int)+1)))],[]⟩:St)=⟨[(0,.d (.slice 1 (bys [a,b,c,d]))),(3,.d (.int .i64 (nu a b c d a'))),(4,.d (.int .i64 ((a':Nat))))],[]⟩:=⟨3,⟨by decide,by decide⟩,by rw [show 256 * nu a b c d 2+IntKind.wrap .i64 c=nu a b c d 3 by rw [wrap_i q2,Int.mul_comm]; rfl]; rfl⟩
  have hz:(bys [a,b,c,d])[(((2:Nat):Int)).toNat]?=some (.int .u8 c):=rfl
  refine sd ?_
  refine ar_mul ?_ ?_
  refine an ?_ ?_
  (show (-9223372036854775808:Int)≤(256:Int) * nu a b c d (2:Nat); omega)
  (show (256:Int) * nu a b c d (2:Nat)≤(9223372036854775807:Int); omega)
  refine ix_at hz ?_ ?_
  (show (0:Int)≤(↑(2:Nat):Int); omega)
  refine ca rfl ?_
  refine ar_add ?_ ?_
  refine an ?_ ?_
  (show (-9223372036854775808:Int)≤(256:Int) * nu a b c d (2:Nat)+IntKind.wrap IntKind.i64 c; omega)
  (show (256:Int) * nu a b c d (2:Nat)+IntKind.wrap IntKind.i64 c≤(9223372036854775807:Int); omega)
  refine ar_add ?_ ?_
  refine an ?_ ?_
  (show (-9223372036854775808:Int)≤(↑(2:Nat):Int)+(1:Int); omega)
  (show (↑(2:Nat):Int)+(1:Int)≤(9223372036854775807:Int); omega)
  rotate_left
  all_goals exact fin
 | 3,_ =>
  have hx:=nu_b a b c d q0 q1 q2 q3 3 (by decide)
  have hw:=wrap_b q3
  have fin:∃ a':Nat,(a'≤4∧4 - a' < 4 - 3)∧(⟨[(0,.d (.slice 1 (bys [a,b,c,d]))),(3,.d (.int .i64 (256 * nu a b c d 3+IntKind.wrap .i64 d))),(4,.d (.int .i64 (((3:Nat):Int)+1)))],[]⟩:St)=⟨[(0,.d (.slice 1 (bys [a,b,c,d]))),(3,.d (.int .i64 (nu a b c d a'))),(4,.d (.int .i64 ((a':Nat))))],[]⟩:=⟨4,⟨by decide,by decide⟩,by rw [show 256 * nu a b c d 3+IntKind.wrap .i64 d=nu a b c d 4 by rw [wrap_i q3,Int.mul_comm]; rfl]; rfl⟩
  have hz:(bys [a,b,c,d])[(((3:Nat):Int)).toNat]?=some (.int .u8 d):=rfl
  refine sd ?_
  refine ar_mul ?_ ?_
  refine an ?_ ?_
  (show (-9223372036854775808:Int)≤(256:Int) * nu a b c d (3:Nat); omega)
  (show (256:Int) * nu a b c d (3:Nat)≤(9223372036854775807:Int); omega)
  refine ix_at hz ?_ ?_
  (show (0:Int)≤(↑(3:Nat):Int); omega)
  refine ca rfl ?_
  refine ar_add ?_ ?_
  refine an ?_ ?_
  (show (-9223372036854775808:Int)≤(256:Int) * nu a b c d (3:Nat)+IntKind.wrap IntKind.i64 d; omega)
  (show (256:Int) * nu a b c d (3:Nat)+IntKind.wrap IntKind.i64 d≤(9223372036854775807:Int); omega)
  refine ar_add ?_ ?_
  refine an ?_ ?_
  (show (-9223372036854775808:Int)≤(↑(3:Nat):Int)+(1:Int); omega)
  (show (↑(3:Nat):Int)+(1:Int)≤(9223372036854775807:Int); omega)
  rotate_left
  all_goals exact fin
 | 4,_ =>
  refine sd ?_
  exact rfl
 | _+5,h=>exact absurd h (by omega)
end Vc
set_option maxRecDepth 10000
set_option maxHeartbeats 4000000
namespace Vc
open Go Go.Proofs
def jr40:AFun:=⟨25,3,[.cell 2 10 true,.tmp 3],
 (.seq
 (.reg [0,1] [⟨some 1,.cbx 0 16 (.tmp 0),none⟩,
  ⟨some 2,.alloc 1 [(.d (.int .i64 0)),(.d (.int .i64 0)),(.d (.int .u8 0)),(.d (.int .u8 0)),(.d (.int .u8 0)),(.d (.int .u8 0)),(.d (.int .u8 0)),(.d (.int .u8 0)),(.d (.int .u8 0)),(.d (.int .u8 0))],none⟩,
  ⟨some 3,.mov (.cst (.d (.int .i64 0))),none⟩])
 (.seq
  (.regd [2] [⟨some 6,.sla 16 (.tmp 1) none (some (.cst (.d (.int .i64 4)))),none⟩,
   ⟨some 7,.s2a 4 (.tmp 6),none⟩,
   ⟨some 8,.ld true 4 (.tmp 7),none⟩,
   ⟨some 9,.call 108 [(.tmp 8)],none⟩,
   ⟨some 10,.sla 16 (.tmp 1) (some (.cst (.d (.int .i64 4)))) (some (.cst (.d (.int .i64 8)))),none⟩,
   ⟨some 11,.s2a 4 (.tmp 10),none⟩,
   ⟨some 12,.ld true 4 (.tmp 11),none⟩,
   ⟨some 13,.call 108 [(.tmp 12)],none⟩,
   ⟨some 14,.sla 16 (.tmp 1) (some (.cst (.d (.int .i64 8)))) none,none⟩,
   ⟨some 15,.s2a 8 (.tmp 14),none⟩,
   ⟨some 16,.ld true 8 (.tmp 15),none⟩,
   ⟨some 17,.build [(.d (.int .i64 0)),(.d (.int .i64 0)),(.d (.int .u8 0)),(.d (.int .u8 0)),(.d (.int .u8 0)),(.d (.int .u8 0)),(.d (.int .u8 0)),(.d (.int .u8 0)),(.d (.int .u8 0)),(.d (.int .u8 0))] [(0,1,(.tmp 9)),(1,1,(.tmp 13)),(2,8,(.tmp 16))],none⟩,
   ⟨some 4,.alloc 2 [(.d (.int .i64 0)),(.d (.int .i64 0)),(.d (.int .u8 0)),(.d (.int .u8 0)),(.d (.int .u8 0)),(.d (.int .u8 0)),(.d (.int .u8 0)),(.d (.int .u8 0)),(.d (.int .u8 0)),(.d (.int .u8 0))],none⟩,
   ⟨none,.st 10 (.tmp 4) (.tmp 17),none⟩] [(0,4),(1,4),(2,4),(3,4),(0,5),(1,5),(2,5),(3,5),(0,6),(1,6),(2,6),(3,6),(0,8),(1,8),(2,8),(3,8),(4,8),(5,8),(6,8),(7,8),(0,9),(1,9),(2,9),(3,9),(4,9),(5,9),(6,9),(7,9),(0,10),(1,10),(2,10),(3,10),(4,10),(5,10),(6,10),(7,10),(0,12),(1,12),(2,12),(3,12),(4,12),(5,12),(6,12),(7,12),(8,12),(9,12),(10,12),(11,12)])
  (.seq
  (.seq
   (.reg [] [⟨some 18,.ld true 10 (.tmp 4),none⟩,
    ⟨some 19,.call 99 [(.tmp 18)],none⟩,
    ⟨some 5,.mov (.tmp 19),none⟩])
   (.seq
   (.reg [] [⟨some 20,.mov (.tmp 5),none⟩,
    ⟨some 21,.cmp .neq (.tmp 20) (.cst (.d (.int .i64 0))),none⟩])
   (.cond (.tmp 21)
    (.seq
    (.reg [] [⟨some 22,.build [(.d (.int .i64 0)),(.d (.int .i64 0)),(.d (.int .u8 0)),(.d (.int .u8 0)),(.d (.int .u8 0)),(.d (.int .u8 0)),(.d (.int .u8 0)),(.d (.int .u8 0)),(.d (.int .u8 0)),(.d (.int .u8 0))] [],none⟩,
     ⟨some 23,.mov (.tmp 5),none⟩,
     ⟨none,.st 10 (.tmp 2) (.tmp 22),none⟩,
     ⟨some 3,.mov (.tmp 23),none⟩])
    .ret)
    .skip)))
  (.seq
   (.reg [] [⟨some 24,.ld true 10 (.tmp 4),none⟩,
    ⟨none,.st 10 (.tmp 2) (.tmp 24),none⟩,
    ⟨some 3,.mov (.cst (.d (.int .i64 0))),none⟩])
   .ret))))⟩
def jr45:AFun:=⟨30,3,[.cell 2 10 true,.tmp 3],
 (.seq
 (.reg [0,1] [⟨some 1,.cbx 0 16 (.tmp 0),none⟩,
  ⟨some 2,.alloc 1 [(.d (.int .i64 0)),(.d (.int .i64 0)),(.d (.int .u8 0)),(.d (.int .u8 0)),(.d (.int .u8 0)),(.d (.int .u8 0)),(.d (.int .u8 0)),(.d (.int .u8 0)),(.d (.int .u8 0)),(.d (.int .u8 0))],none⟩,
  ⟨some 3,.mov (.cst (.d (.int .i64 0))),none⟩])
 (.seq
  (.regd [2] [⟨some 7,.sla 16 (.tmp 1) none (some (.cst (.d (.int .i64 4)))),none⟩,
   ⟨some 8,.call 111 [(.tmp 7)],none⟩,
   ⟨some 9,.sla 16 (.tmp 1) (some (.cst (.d (.int .i64 4)))) (some (.cst (.d (.int .i64 8)))),none⟩,
   ⟨some 10,.call 111 [(.tmp 9)],none⟩,
   ⟨some 11,.build [(.d (.int .i64 0)),(.d (.int .i64 0)),(.d (.int .u8 0)),(.d (.int .u8 0)),(.d (.int .u8 0)),(.d (.int .u8 0)),(.d (.int .u8 0)),(.d (.int .u8 0)),(.d (.int .u8 0)),(.d (.int .u8 0))] [(0,1,(.tmp 8)),(1,1,(.tmp 10))],none⟩,
   ⟨some 4,.alloc 2 [(.d (.int .i64 0)),(.d (.int .i64 0)),(.d (.int .u8 0)),(.d (.int .u8 0)),(.d (.int .u8 0)),(.d (.int .u8 0)),(.d (.int .u8 0)),(.d (.int .u8 0)),(.d (.int .u8 0)),(.d (.int .u8 0))],none⟩,
   ⟨none,.st 10 (.tmp 4) (.tmp 11),none⟩] [(0,2),(1,2),(0,5),(1,5),(2,5),(3,5),(4,5)])
  (.seq
  (.seq
   (.reg [] [⟨some 5,.mov (.cst (.d (.int .i64 0))),none⟩])
   (.post [2,4] [0,1,2]
   (.block 0
    (.keep [1,2,4,5] [0,1,2]
    (.loop
     (.post [1,2,4,5] []
     (.seq
      (.seq
      (.reg [] [⟨some 12,.mov (.tmp 5),none⟩,
       ⟨some 13,.cmp .lss (.tmp 12) (.cst (.d (.int .i64 8))),none⟩])
      (.cond (.tmp 13)
       .skip
       (.exit 0)))
      (.seq
      (.block 1
       (.reg [] [⟨some 16,.mov (.tmp 5),none⟩,
        ⟨some 17,.mov (.tmp 5),none⟩,
        ⟨some 18,.arith .add .i64 (.cst (.d (.int .i64 8))) (.tmp 17),none⟩,
        ⟨some 19,.ixp 16 1 (.tmp 1) (.tmp 18),none⟩,
        ⟨some 20,.ld false 1 (.tmp 19),none⟩,
        ⟨some 21,.fad 2 (.tmp 4),none⟩,
        ⟨some 22,.ixp 8 1 (.tmp 21) (.tmp 16),none⟩,
        ⟨none,.st 1 (.tmp 22) (.tmp 20),none⟩]))
      (.reg [] [⟨some 14,.mov (.tmp 5),none⟩,
       ⟨some 15,.arith .add .i64 (.tmp 14) (.cst (.d (.int .i64 1))),none⟩,
       ⟨some 5,.mov (.tmp 15),none⟩])))))))))
  (.seq
   (.seq
   (.reg [] [⟨some 23,.ld true 10 (.tmp 4),none⟩,
    ⟨some 24,.call 31 [(.tmp 23)],none⟩,
    ⟨some 6,.mov (.tmp 24),none⟩])
   (.seq
    (.reg [] [⟨some 25,.mov (.tmp 6),none⟩,
     ⟨some 26,.cmp .neq (.tmp 25) (.cst (.d (.int .i64 0))),none⟩])
    (.cond (.tmp 26)
    (.seq
     (.reg [] [⟨some 27,.build [(.d (.int .i64 0)),(.d (.int .i64 0)),(.d (.int .u8 0)),(.d (.int .u8 0)),(.d (.int .u8 0)),(.d (.int .u8 0)),(.d (.int .u8 0)),(.d (.int .u8 0)),(.d (.int .u8 0)),(.d (.int .u8 0))] [],none⟩,
      ⟨some 28,.mov (.tmp 6),none⟩,
      ⟨none,.st 10 (.tmp 2) (.tmp 27),none⟩,
      ⟨some 3,.mov (.tmp 28),none⟩])
     .ret)
    .skip)))
   (.seq
   (.reg [] [⟨some 29,.ld true 10 (.tmp 4),none⟩,
    ⟨none,.st 10 (.tmp 2) (.tmp 29),none⟩,
    ⟨some 3,.mov (.cst (.d (.int .i64 0))),none⟩])
   .ret)))))⟩
theorem c40 (p q:Ky) (hp:p.ok):CallDet Tryz.prog 40 [.d (.agg [.int .u8 p.a,.int .u8 p.b,.int .u8 p.c,.int .u8 p.d,.int .u8 p.e,.int .u8 p.f,.int .u8 p.g,.int .u8 p.h,.int .u8 q.a,.int .u8 q.b,.int .u8 q.c,.int .u8 q.d,.int .u8 q.e,.int .u8 q.f,.int .u8 q.g,.int .u8 q.h])] (bif ckT (nu p.a p.b p.c p.d 4) (nu p.e p.f p.g p.h 4) != 0 then [.agg [.int .i64 0,.int .i64 0,.int .u8 0,.int .u8 0,.int .u8 0,.int .u8 0,.int .u8 0,.int .u8 0,.int .u8 0,.int .u8 0],.int .i64 (ckT (nu p.a p.b p.c p.d 4) (nu p.e p.f p.g p.h 4))] else [.agg [.int .i64 (nu p.a p.b p.c p.d 4),.int .i64 (nu p.e p.f p.g p.h 4),.int .u8 q.a,.int .u8 q.b,.int .u8 q.c,.int .u8 q.d,.int .u8 q.e,.int .u8 q.f,.int .u8 q.g,.int .u8 q.h],.int .i64 0]):=by
 obtain ⟨q0,q1,q2,q3,q4,q5,q6,q7⟩:=hp
 have c108_1:=c108 p.a p.b p.c p.d q0 q1 q2 q3
 have c108_2:=c108 p.e p.f p.g p.h q4 q5 q6 q7
 generalize nu p.a p.b p.c p.d 4=n1 at *
 generalize nu p.e p.f p.g p.h 4=n2 at *
 have c99_:=c99 n1 n2 q
 by_cases h0:ckT n1 n2=0
 ·rw [h0] at c99_ ⊢
  refine call_of_vc (x:=jr40) (by kernel_rfl) rfl ?_
  refine an ?_ ?_
  refine an ?_ ?_
  (show (0:Int)≤(0:Int); omega)
  refine an ?_ ?_
  (show (0:Int)≤(4:Int); omega)
  refine an ?_ ?_
  (show (4:Int)≤(↑(16:Nat):Int); omega)
  (show (0:Nat)+(16:Nat)≤(1:Nat)+(1:Nat)+(1:Nat)+(1:Nat)+(1:Nat)+(1:Nat)+(1:Nat)+(1:Nat)+(1:Nat)+(1:Nat)+(1:Nat)+(1:Nat)+(1:Nat)+(1:Nat)+(1:Nat)+(1:Nat); omega)
  refine an ?_ ?_
  (show (4:Nat)≤(1:Nat)+(1:Nat)+(1:Nat)+(1:Nat); omega)
  refine ca c108_1 ?_
  refine an ?_ ?_
  refine an ?_ ?_
  (show (0:Int)≤(4:Int); omega)
  refine an ?_ ?_
  (show (4:Int)≤(8:Int); omega)
  refine an ?_ ?_
  (show (8:Int)≤(↑(16:Nat):Int); omega)
  (show (0:Nat)+(16:Nat)≤(1:Nat)+(1:Nat)+(1:Nat)+(1:Nat)+(1:Nat)+(1:Nat)+(1:Nat)+(1:Nat)+(1:Nat)+(1:Nat)+(1:Nat)+(1:Nat)+(1:Nat)+(1:Nat)+(1:Nat)+(1:Nat); omega)
  refine an ?_ ?_
  (show (4:Nat)≤(1:Nat)+(1:Nat)+(1:Nat)+(1:Nat); omega)
  refine ca c108_2 ?_
  refine an ?_ ?_
  refine an ?_ ?_
  (show (0:Int)≤(8:Int); omega)
  refine an ?_ ?_
  (show (8:Int)≤(↑(16:Nat):Int); omega)
  refine an ?_ ?_
  (show (↑(16:Nat):Int)≤(↑(16:Nat):Int); omega)
  (show (0:Nat)+(16:Nat)≤(1:Nat)+(1:Nat)+(1:Nat)+(1:Nat)+(1:Nat)+(1:Nat)+(1:Nat)+(1:Nat)+(1:Nat)+(1:Nat)+(1:Nat)+(1:Nat)+(1:Nat)+(1:Nat)+(1:Nat)+(1:Nat); omega)
  refine an ?_ ?_
  (show (8:Nat)≤(1:Nat)+(1:Nat)+(1:Nat)+(1:Nat)+(1:Nat)+(1:Nat)+(1:Nat)+(1:Nat); omega)
  refine ca c99_ ?_
  refine sd ?_
  exact rfl
 ·rw [bne_t h0]
  refine call_of_vc (x:=jr40) (by kernel_rfl) rfl ?_
  refine an ?_ ?_
  refine an ?_ ?_
  (show (0:Int)≤(0:Int); omega)
  refine an ?_ ?_
  (show (0:Int)≤(4:Int); omega)
  refine an ?_ ?_
  (show (4:Int)≤(↑(16:Nat):Int); omega)
  (show (0:Nat)+(16:Nat)≤(1:Nat)+(1:Nat)+(1:Nat)+(1:Nat)+(1:Nat)+(1:Nat)+(1:Nat)+(1:Nat)+(1:Nat)+(1:Nat)+(1:Nat)+(1:Nat)+(1:Nat)+(1:Nat)+(1:Nat)+(1:Nat); omega)
  refine an ?_ ?_
  (show (4:Nat)≤(1:Nat)+(1:Nat)+(1:Nat)+(1:Nat); omega)
  refine ca c108_1 ?_
  refine an ?_ ?_
  refine an ?_ ?_
  (show (0:Int)≤(4:Int); omega)
  refine an ?_ ?_
  (show (4:Int)≤(8:Int); omega)
  refine an ?_ ?_
  (show (8:Int)≤(↑(16:Nat):Int); omega)
  (show (0:Nat)+(16:Nat)≤(1:Nat)+(1:Nat)+(1:Nat)+(1:Nat)+(1:Nat)+(1:Nat)+(1:Nat)+(1:Nat)+(1:Nat)+(1:Nat)+(1:Nat)+(1:Nat)+(1:Nat)+(1:Nat)+(1:Nat)+(1:Nat); omega)
  refine an ?_ ?_
  (show (4:Nat)≤(1:Nat)+(1:Nat)+(1:Nat)+(1:Nat); omega)
  refine ca c108_2 ?_
  refine an ?_ ?_
  refine an ?_ ?_
  (show (0:Int)≤(8:Int); omega)
  refine an ?_ ?_
  (show (8:Int)≤(↑(16:Nat):Int); omega)
  refine an ?_ ?_
  (show (↑(16:Nat):Int)≤(↑(16:Nat):Int); omega)
  (show (0:Nat)+(16:Nat)≤(1:Nat)+(1:Nat)+(1:Nat)+(1:Nat)+(1:Nat)+(1:Nat)+(1:Nat)+(1:Nat)+(1:Nat)+(1:Nat)+(1:Nat)+(1:Nat)+(1:Nat)+(1:Nat)+(1:Nat)+(1:Nat); omega)
  refine an ?_ ?_
  (show (8:Nat)≤(1:Nat)+(1:Nat)+(1:Nat)+(1:Nat)+(1:Nat)+(1:Nat)+(1:Nat)+(1:Nat); omega)
  refine ca c99_ ?_
  refine sd ?_
  refine b_ne (fun t1=>?_) (fun t1=>?_)
  exact rfl
  (exfalso; omega)
theorem c45 (p q:Ky) (hp:p.ok):CallDet Tryz.prog 45 [.d (.agg [.int .u8 p.a,.int .u8 p.b,.int .u8 p.c,.int .u8 p.d,.int .u8 p.e,.int .u8 p.f,.int .u8 p.g,.int .u8 p.h,.int .u8 q.a,.int .u8 q.b,.int .u8 q.c,.int .u8 q.d,.int .u8 q.e,.int .u8 q.f,.int .u8 q.g,.int .u8 q.h])] (bif ckT (nu p.a p.b p.c p.d 4) (nu p.e p.f p.g p.h 4) != 0 then [.agg [.int .i64 0,.int .i64 0,.int .u8 0,.int .u8 0,.int .u8 0,.int .u8 0,.int .u8 0,.int .u8 0,.int .u8 0,.int .u8 0],.int .i64 (ckT (nu p.a p.b p.c p.d 4) (nu p.e p.f p.g p.h 4))] else [.agg [.int .i64 (nu p.a p.b p.c p.d 4),.int .i64 (nu p.e p.f p.g p.h 4),.int .u8 q.a,.int .u8 q.b,.int .u8 q.c,.int .u8 q.d,.int .u8 q.e,.int .u8 q.f,.int .u8 q.g,.int .u8 q.h],.int .i64 0]):=by
 obtain ⟨q0,q1,q2,q3,q4,q5,q6,q7⟩:=hp
 have c111_1:=c111 p.a p.b p.c p.d q0 q1 q2 q3
 have c111_2:=c111 p.e p.f p.g p.h q4 q5 q6 q7
 have c31_:=c31 (nu p.a p.b p.c p.d 4) (nu p.e p.f p.g p.h 4) q
 refine call_of_vc (x:=jr45) (by kernel_rfl) rfl ?_
 refine an ?_ ?_
 refine an ?_ ?_
 (show (0:Int)≤(0:Int); omega)
 refine an ?_ ?_
 (show (0:Int)≤(4:Int); omega)
 refine an ?_ ?_
 (show (4:Int)≤(↑(16:Nat):Int); omega)
 (show (0:Nat)+(16:Nat)≤(1:Nat)+(1:Nat)+(1:Nat)+(1:Nat)+(1:Nat)+(1:Nat)+(1:Nat)+(1:Nat)+(1:Nat)+(1:Nat)+(1:Nat)+(1:Nat)+(1:Nat)+(1:Nat)+(1:Nat)+(1:Nat); omega)
 refine ca c111_1 ?_
 refine an ?_ ?_
 refine an ?_ ?_
 (show (0:Int)≤(4:Int); omega)
 refine an ?_ ?_
 (show (4:Int)≤(8:Int); omega)
 refine an ?_ ?_
 (show (8:Int)≤(↑(16:Nat):Int); omega)
 (show (0:Nat)+(16:Nat)≤(1:Nat)+(1:Nat)+(1:Nat)+(1:Nat)+(1:Nat)+(1:Nat)+(1:Nat)+(1:Nat)+(1:Nat)+(1:Nat)+(1:Nat)+(1:Nat)+(1:Nat)+(1:Nat)+(1:Nat)+(1:Nat); omega)
 refine ca c111_2 ?_
 rotate_left
 refine loop_st (fun p':K9=>⟨[(1,.ptr 0 0),(2,.ptr 1 0),(4,.ptr 2 0),(5,.d (.int .i64 ((p'.n:Nat))))],[.cbox [.int .u8 p.a,.int .u8 p.b,.int .u8 p.c,.int .u8 p.d,.int .u8 p.e,.int .u8 p.f,.int .u8 p.g,.int .u8 p.h,.int .u8 q.a,.int .u8 q.b,.int .u8 q.c,.int .u8 q.d,.int .u8 q.e,.int .u8 q.f,.int .u8 q.g,.int .u8 q.h],.box [.d (.int .i64 0),.d (.int .i64 0),.d (.int .u8 0),.d (.int .u8 0),.d (.int .u8 0),.d (.int .u8 0),.d (.int .u8 0),.d (.int .u8 0),.d (.int .u8 0),.d (.int .u8 0)],.box [.d (.int .i64 (nu p.a p.b p.c p.d 4)),.d (.int .i64 (nu p.e p.f p.g p.h 4)),.d (.int .u8 (p'.c.a)),.d (.int .u8 (p'.c.b)),.d (.int .u8 (p'.c.c)),.d (.int .u8 (p'.c.d)),.d (.int .u8 (p'.c.e)),.d (.int .u8 (p'.c.f)),.d (.int .u8 (p'.c.g)),.d (.int .u8 (p'.c.h))]]⟩) (fun p'=>p'.n≤8∧Mix p'.n p'.c ⟨0,0,0,0,0,0,0,0⟩ q) (fun p'=>8 - p'.n) ⟨0,⟨0,0,0,0,0,0,0,0⟩⟩ rfl ⟨Nat.zero_le _,rfl,rfl,rfl,rfl,rfl,rfl,rfl,rfl⟩ ?_
 rintro ⟨n,c⟩ ⟨hn,hm⟩
 have hn:n≤8:=hn
 have hm:Mix n c ⟨0,0,0,0,0,0,0,0⟩ q:=hm
 dsimp only
 obtain ⟨m0,m1,m2,m3,m4,m5,m6,m7⟩:=hm
 match n,hn,m0,m1,m2,m3,m4,m5,m6,m7 with
 | 0,_,m0,m1,m2,m3,m4,m5,m6,m7 =>
  have fin:∃ a':K9,((a'.n≤8∧Mix a'.n a'.c ⟨0,0,0,0,0,0,0,0⟩ q)∧8 - a'.n < 8 - 0)∧(⟨[(1,.ptr 0 0),(2,.ptr 1 0),(4,.ptr 2 0),(5,.d (.int .i64 (((0:Nat):Int)+1)))],[.cbox [.int .u8 p.a,.int .u8 p.b,.int .u8 p.c,.int .u8 p.d,.int .u8 p.e,.int .u8 p.f,.int .u8 p.g,.int .u8 p.h,.int .u8 q.a,.int .u8 q.b,.int .u8 q.c,.int .u8 q.d,.int .u8 q.e,.int .u8 q.f,.int .u8 q.g,.int .u8 q.h],.box [.d (.int .i64 0),.d (.int .i64 0),.d (.int .u8 0),.d (.int .u8 0),.d (.int .u8 0),.d (.int .u8 0),.d (.int .u8 0),.d (.int .u8 0),.d (.int .u8 0),.d (.int .u8 0)],.box [.d (.int .i64 (nu p.a p.b p.c p.d 4)),.d (.int .i64 (nu p.e p.f p.g p.h 4)),.d (.int .u8 (q.a)),.d (.int .u8 (c.b)),.d (.int .u8 (c.c)),.d (.int .u8 (c.d)),.d (.int .u8 (c.e)),.d (.int .u8 (c.f)),.d (.int .u8 (c.g)),.d (.int .u8 (c.h))]]⟩:St)=⟨[(1,.ptr 0 0),(2,.ptr 1 0),(4,.ptr 2 0),(5,.d (.int .i64 ((a'.n:Nat))))],[.cbox [.int .u8 p.a,.int .u8 p.b,.int .u8 p.c,.int .u8 p.d,.int .u8 p.e,.int .u8 p.f,.int .u8 p.g,.int .u8 p.h,.int .u8 q.a,.int .u8 q.b,.int .u8 q.c,.int .u8 q.d,.int .u8 q.e,.int .u8 q.f,.int .u8 q.g,.int .u8 q.h],.box [.d (.int .i64 0),.d (.int .i64 0),.d (.int .u8 0),.d (.int .u8 0),.d (.int .u8 0),.d (.int .u8 0),.d (.int .u8 0),.d (.int .u8 0),.d (.int .u8 0),.d (.int .u8 0)],.box [.d (.int .i64 (nu p.a p.b p.c p.d 4)),.d (.int .i64 (nu p.e p.f p.g p.h 4)),.d (.int .u8 (a'.c.a)),.d (.int .u8 (a'.c.b)),.d (.int .u8 (a'.c.c)),.d (.int .u8 (a'.c.d)),.d (.int .u8 (a'.c.e)),.d (.int .u8 (a'.c.f)),.d (.int .u8 (a'.c.g)),.d (.int .u8 (a'.c.h))]]⟩:=⟨⟨1,⟨q.a,c.b,c.c,c.d,c.e,c.f,c.g,c.h⟩⟩,⟨⟨by show 1≤8; decide,rfl,m1,m2,m3,m4,m5,m6,m7⟩,by show 8 - 1 < 8 - 0; decide⟩,rfl⟩
  refine sd ?_
  refine ar_add ?_ ?_
  refine an ?_ ?_
  (show (-9223372036854775808:Int)≤(8:Int)+(↑(0:Nat):Int); omega)
  (show (8:Int)+(↑(0:Nat):Int)≤(9223372036854775807:Int); omega)
  refine an ?_ ?_
  refine an ?_ ?_
  (show (0:Int)≤(8:Int)+(↑(0:Nat):Int); omega)
  (show (8:Int)+(↑(0:Nat):Int) < (↑(16:Nat):Int); omega)
  refine an ?_ ?_
  refine an ?_ ?_
  (show (0:Int)≤(↑(0:Nat):Int); omega)
  (show (↑(0:Nat):Int) < (↑(8:Nat):Int); omega)
  refine ar_add ?_ ?_
  refine an ?_ ?_
  (show (-9223372036854775808:Int)≤(↑(0:Nat):Int)+(1:Int); omega)
  (show (↑(0:Nat):Int)+(1:Int)≤(9223372036854775807:Int); omega)
  rotate_left
  all_goals exact fin
 | 1,_,m0,m1,m2,m3,m4,m5,m6,m7 =>
  have fin:∃ a':K9,((a'.n≤8∧Mix a'.n a'.c ⟨0,0,0,0,0,0,0,0⟩ q)∧8 - a'.n < 8 - 1)∧(⟨[(1,.ptr 0 0),(2,.ptr 1 0),(4,.ptr 2 0),(5,.d (.int .i64 (((1:Nat):Int)+1)))],[.cbox [.int .u8 p.a,.int .u8 p.b,.int .u8 p.c,.int .u8 p.d,.int .u8 p.e,.int .u8 p.f,.int .u8 p.g,.int .u8 p.h,.int .u8 q.a,.int .u8 q.b,.int .u8 q.c,.int .u8 q.d,.int .u8 q.e,.int .u8 q.f,.int .u8 q.g,.int .u8 q.h],.box [.d (.int .i64 0),.d (.int .i64 0),.d (.int .u8 0),.d (.int .u8 0),.d (.int .u8 0),.d (.int .u8 0),.d (.int .u8 0),.d (.int .u8 0),.d (.int .u8 0),.d (.int .u8 0)],.box [.d (.int .i64 (nu p.a p.b p.c p.d 4)),.d (.int .i64 (nu p.e p.f p.g p.h 4)),.d (.int .u8 (c.a)),.d (.int .u8 (q.b)),.d (.int .u8 (c.c)),.d (.int .u8 (c.d)),.d (.int .u8 (c.e)),.d (.int .u8 (c.f)),.d (.int .u8 (c.g)),.d (.int .u8 (c.h))]]⟩:St)=⟨[(1,.ptr 0 0),(2,.ptr 1 0),(4,.ptr 2 0),(5,.d (.int .i64 ((a'.n:Nat))))],[.cbox [.int .u8 p.a,.int .u8 p.b,.int .u8 p.c,.int .u8 p.d,.int .u8 p.e,.int .u8 p.f,.int .u8 p.g,.int .u8 p.h,.int .u8 q.a,.int .u8 q.b,.int .u8 q.c,.int .u8 q.d,.int .u8 q.e,.int .u8 q.f,.int .u8 q.g,.int .u8 q.h],.box [.d (.int .i64 0),.d (.int .i64 0),.d (.int .u8 0),.d (.int .u8 0),.d (.int .u8 0),.d (.int .u8 0),.d (.int .u8 0),.d (.int .u8 0),.d (.int .u8 0),.d (.int .u8 0)],.box [.d (.int .i64 (nu p.a p.b p.c p.d 4)),.d (.int .i64 (nu p.e p.f p.g p.h 4)),.d (.int .u8 (a'.c.a)),.d (.int .u8 (a'.c.b)),.d (.int .u8 (a'.c.c)),.d (.int .u8 (a'.c.d)),.d (.int .u8 (a'.c.e)),.d (.int .u8 (a'.c.f)),.d (.int .u8 (a'.c.g)),.d (.int .u8 (a'.c.h))]]⟩:=⟨⟨2,⟨c.a,q.b,c.c,c.d,c.e,c.f,c.g,c.h⟩⟩,⟨⟨by show 2≤8; decide,m0,rfl,m2,m3,m4,m5,m6,m7⟩,by show 8 - 2 < 8 - 1; decide⟩,rfl⟩
  refine sd ?_
  refine ar_add ?_ ?_
  refine an ?_ ?_
  (show (-9223372036854775808:Int)≤(8:Int)+(↑(1:Nat):Int); omega)
  (show (8:Int)+(↑(1:Nat):Int)≤(9223372036854775807:Int); omega)
  refine an ?_ ?_
  refine an ?_ ?_
  (show (0:Int)≤(8:Int)+(↑(1:Nat):Int); omega)
  (show (8:Int)+(↑(1:Nat):Int) < (↑(16:Nat):Int); omega)
  refine an ?_ ?_
  refine an ?_ ?_
  (show (0:Int)≤(↑(1:Nat):Int); omega)
  (show (↑(1:Nat):Int) < (↑(8:Nat):Int); omega)
  refine ar_add ?_ ?_
  refine an ?_ ?_
  (show (-9223372036854775808:Int)≤(↑(1:Nat):Int)+(1:Int); omega)
  (show (↑(1:Nat):Int)+(1:Int)≤(9223372036854775807:Int); omega)
  rotate_left
  all_goals exact fin
 | 2,_,m0,m1,m2,m3,m4,m5,m6,m7 =>
  have fin:∃ a':K9,((a'.n≤8∧Mix a'.n a'.c ⟨0,0,0,0,0,0,0,0⟩ q)∧8 - a'.n < 8 - 2)∧(⟨[(1,.ptr 0 0),(2,.ptr 1 0),(4,.ptr 2 0),(5,.d (.int .i64 (((2:Nat):Int)+1)))],[.cbox [.int .u8 p.a,.int .u8 p.b,.int .u8 p.c,.int .u8 p.d,.int .u8 p.e,.int .u8 p.f,.int .u8 p.g,.int .u8 p.h,.int .u8 q.a,.int .u8 q.b,.int .u8 q.c,.int .u8 q.d,.int .u8 q.e,.int .u8 q.f,.int .u8 q.g,.int .u8 q.h],.box [.d (.int .i64 0),.d (.int .i64 0),.d (.int .u8 0),.d (.int .u8 0),.d (.int .u8 0),.d (.int .u8 0),.d (.int .u8 0),.d (.int .u8 0),.d (.int .u8 0),.d (.int .u8 0)],.box [.d (.int .i64 (nu p.a p.b p.c p.d 4)),.d (.int .i64 (nu p.e p.f p.g p.h 4)),.d (.int .u8 (c.a)),.d (.int .u8 (c.b)),.d (.int .u8 (q.c)),.d (.int .u8 (c.d)),.d (.int .u8 (c.e)),.d (.int .u8 (c.f)),.d (.int .u8 (c.g)),.d (.int .u8 (c.h))]]⟩:St)=⟨[(1,.ptr 0 0),(2,.ptr 1 0),(4,.ptr 2 0),(5,.d (.int .i64 ((a'.n:Nat))))],[.cbox [.int .u8 p.a,.int .u8 p.b,.int .u8 p.c,.int .u8 p.d,.int .u8 p.e,.int .u8 p.f,.int .u8 p.g,.int .u8 p.h,.int .u8 q.a,.int .u8 q.b,.int .u8 q.c,.int .u8 q.d,.int .u8 q.e,.int .u8 q.f,.int .u8 q.g,.int .u8 q.h],.box [.d (.int .i64 0),.d (.int .i64 0),.d (.int .u8 0),.d (.int .u8 0),.d (.int .u8 0),.d (.int .u8 0),.d (.int .u8 0),.d (.int .u8 0),.d (.int .u8 0),.d (.int .u8 0)],.box [.d (.int .i64 (nu p.a p.b p.c p.d 4)),.d (.int .i64 (nu p.e p.f p.g p.h 4)),.d (.int .u8 (a'.c.a)),.d (.int .u8 (a'.c.b)),.d (.int .u8 (a'.c.c)),.d (.int .u8 (a'.c.d)),.d (.int .u8 (a'.c.e)),.d (.int .u8 (a'.c.f)),.d (.int .u8 (a'.c.g)),.d (.int .u8 (a'.c.h))]]⟩:=⟨⟨3,⟨c.a,c.b,q.c,c.d,c.e,c.f,c.g,c.h⟩⟩,⟨⟨by show 3≤8; decide,m0,m1,rfl,m3,m4,m5,m6,m7⟩,by show 8 - 3 < 8 - 2; decide⟩,rfl⟩
  refine sd ?_
  refine ar_add ?_ ?_
  refine an ?_ ?_
  (show (-9223372036854775808:Int)≤(8:Int)+(↑(2:Nat):Int); omega)
  (show (8:Int)+(↑(2:Nat):Int)≤(9223372036854775807:Int); omega)
  refine an ?_ ?_
  refine an ?_ ?_
  (show (0:Int)≤(8:Int)+(↑(2:Nat):Int); omega)
  (show (8:Int)+(↑(2:Nat):Int) < (↑(16:Nat):Int); omega)
  refine an ?_ ?_
  refine an ?_ ?_
  (show (0:Int)≤(↑(2:Nat):Int); omega)
  (show (↑(2:Nat):Int) < (↑(8:Nat):Int); omega)
  refine ar_add ?_ ?_
  refine an ?_ ?_
  (show (-9223372036854775808:Int)≤(↑(2:Nat):Int)+(1:Int); omega)
  (show (↑(2:Nat):Int)+(1:Int)≤(9223372036854775807:Int); omega)
  rotate_left
  all_goals exact fin
 | 3,_,m0,m1,m2,m3,m4,m5,m6,m7 =>
  have fin:∃ a':K9,((a'.n≤8∧Mix a'.n a'.c ⟨0,0,0,0,0,0,0,0⟩ q)∧8 - a'.n < 8 - 3)∧(⟨[(1,.ptr 0 0),(2,.ptr 1 0),(4,.ptr 2 0),(5,.d (.int .i64 (((3:Nat):Int)+1)))],[.cbox [.int .u8 p.a,.int .u8 p.b,.int .u8 p.c,.int .u8 p.d,.int .u8 p.e,.int .u8 p.f,.int .u8 p.g,.int .u8 p.h,.int .u8 q.a,.int .u8 q.b,.int .u8 q.c,.int .u8 q.d,.int .u8 q.e,.int .u8 q.f,.int .u8 q.g,.int .u8 q.h],.box [.d (.int .i64 0),.d (.int .i64 0),.d (.int .u8 0),.d (.int .u8 0),.d (.int .u8 0),.d (.int .u8 0),.d (.int .u8 0),.d (.int .u8 0),.d (.int .u8 0),.d (.int .u8 0)],.box [.d (.int .i64 (nu p.a p.b p.c p.d 4)),.d (.int .i64 (nu p.e p.f p.g p.h 4)),.d (.int .u8 (c.a)),.d (.int .u8 (c.b)),.d (.int .u8 (c.c)),.d (.int .u8 (q.d)),.d (.int .u8 (c.e)),.d (.int .u8 (c.f)),.d (.int .u8 (c.g)),.d (.int .u8 (c.h))]]⟩:St)=⟨[(1,.ptr 0 0),(2,.ptr 1 0),(4,.ptr 2 0),(5,.d (.int .i64 ((a'.n:Nat))))],[.cbox [.int .u8 p.a,.int .u8 p.b,.int .u8 p.c,.int .u8 p.d,.int .u8 p.e,.int .u8 p.f,.int .u8 p.g,.int .u8 p.h,.int .u8 q.a,.int .u8 q.b,.int .u8 q.c,.int .u8 q.d,.int .u8 q.e,.int .u8 q.f,.int .u8 q.g,.int .u8 q.h],.box [.d (.int .i64 0),.d (.int .i64 0),.d (.int .u8 0),.d (.int .u8 0),.d (.int .u8 0),.d (.int .u8 0),.d (.int .u8 0),.d (.int .u8 0),.d (.int .u8 0),.d (.int .u8 0)],.box [.d (.int .i64 (nu p.a p.b p.c p.d 4)),.d (.int .i64 (nu p.e p.f p.g p.h 4)),.d (.int .u8 (a'.c.a)),.d (.int .u8 (a'.c.b)),.d (.int .u8 (a'.c.c)),.d (.int .u8 (a'.c.d)),.d (.int .u8 (a'.c.e)),.d (.int .u8 (a'.c.f)),.d (.int .u8 (a'.c.g)),.d (.int .u8 (a'.c.h))]]⟩:=⟨⟨4,⟨c.a,c.b,c.c,q.d,c.e,c.f,c.g,c.h⟩⟩,⟨⟨by show 4≤8; decide,m0,m1,m2,rfl,m4,m5,m6,m7⟩,by show 8 - 4 < 8 - 3; decide⟩,rfl⟩
  refine sd ?_
  refine ar_add ?_ ?_
  refine an ?_ ?_
  (show (-9223372036854775808:Int)≤(8:Int)+(↑(3:Nat):Int); omega)
  (show (8:Int)+(↑(3:Nat):Int)≤(9223372036854775807:Int); omega)
  refine an ?_ ?_
  refine an ?_ ?_
  (show (0:Int)≤(8:Int)+(↑(3:Nat):Int); omega)
  (show (8:Int)+(↑(3:Nat):Int) < (↑(16:Nat):Int); omega)
  refine an ?_ ?_
  refine an ?_ ?_
  (show (0:Int)≤(↑(3:Nat):Int); omega)
  (show (↑(3:Nat):Int) < (↑(8:Nat):Int); omega)
  refine ar_add ?_ ?_
  refine an ?_ ?_
  (show (-9223372036854775808:Int)≤(↑(3:Nat):Int)+(1:Int); omega)
  (show (↑(3:Nat):Int)+(1:Int)≤(9223372036854775807:Int); omega)
  rotate_left
  all_goals exact fin
 | 4,_,m0,m1,m2,m3,m4,m5,m6,m7 =>
  have fin:∃ a':K9,((a'.n≤8∧Mix a'.n a'.c ⟨0,0,0,0,0,0,0,0⟩ q)∧8 - a'.n < 8 - 4)∧(⟨[(1,.ptr 0 0),(2,.ptr 1 0),(4,.ptr 2 0),(5,.d (.int .i64 (((4:Nat):Int)+1)))],[.cbox [.int .u8 p.a,.int .u8 p.b,.int .u8 p.c,.int .u8 p.d,.int .u8 p.e,.int .u8 p.f,.int .u8 p.g,.int .u8 p.h,.int .u8 q.a,.int .u8 q.b,.int .u8 q.c,.int .u8 q.d,.int .u8 q.e,.int .u8 q.f,.int .u8 q.g,.int .u8 q.h],.box [.d (.int .i64 0),.d (.int .i64 0),.d (.int .u8 0),.d (.int .u8 0),.d (.int .u8 0),.d (.int .u8 0),.d (.int .u8 0),.d (.int .u8 0),.d (.int .u8 0),.d (.int .u8 0)],.box [.d (.int .i64 (nu p.a p.b p.c p.d 4)),.d (.int .i64 (nu p.e p.f p.g p.h 4)),.d (.int .u8 (c.a)),.d (.int .u8 (c.b)),.d (.int .u8 (c.c)),.d (.int .u8 (c.d)),.d (.int .u8 (q.e)),.d (.int .u8 (c.f)),.d (.int .u8 (c.g)),.d (.int .u8 (c.h))]]⟩:St)=⟨[(1,.ptr 0 0),(2,.ptr 1 0),(4,.ptr 2 0),(5,.d (.int .i64 ((a'.n:Nat))))],[.cbox [.int .u8 p.a,.int .u8 p.b,.int .u8 p.c,.int .u8 p.d,.int .u8 p.e,.int .u8 p.f,.int .u8 p.g,.int .u8 p.h,.int .u8 q.a,.int .u8 q.b,.int .u8 q.c,.int .u8 q.d,.int .u8 q.e,.int .u8 q.f,.int .u8 q.g,.int .u8 q.h],.box [.d (.int .i64 0),.d (.int .i64 0),.d (.int .u8 0),.d (.int .u8 0),.d (.int .u8 0),.d (.int .u8 0),.d (.int .u8 0),.d (.int .u8 0),.d (.int .u8 0),.d (.int .u8 0)],.box [.d (.int .i64 (nu p.a p.b p.c p.d 4)),.d (.int .i64 (nu p.e p.f p.g p.h 4)),.d (.int .u8 (a'.c.a)),.d (.int .u8 (a'.c.b)),.d (.int .u8 (a'.c.c)),.d (.int .u8 (a'.c.d)),.d (.int .u8 (a'.c.e)),.d (.int .u8 (a'.c.f)),.d (.int .u8 (a'.c.g)),.d (.int .u8 (a'.c.h))]]⟩:=⟨⟨5,⟨c.a,c.b,c.c,c.d,q.e,c.f,c.g,c.h⟩⟩,⟨⟨by show 5≤8; decide,m0,m1,m2,m3,rfl,m5,m6,m7⟩,by show 8 - 5 < 8 - 4; decide⟩,rfl⟩
  refine sd ?_
  refine ar_add ?_ ?_
  refine an ?_ ?_
  (show (-9223372036854775808:Int)≤(8:Int)+(↑(4:Nat):Int); omega)
  (show (8:Int)+(↑(4:Nat):Int)≤(9223372036854775807:Int); omega)
  refine an ?_ ?_
  refine an ?_ ?_
  (show (0:Int)≤(8:Int)+(↑(4:Nat):Int); omega)
  (show (8:Int)+(↑(4:Nat):Int) < (↑(16:Nat):Int); omega)
  refine an ?_ ?_
  refine an ?_ ?_
  (show (0:Int)≤(↑(4:Nat):Int); omega)
  (show (↑(4:Nat):Int) < (↑(8:Nat):Int); omega)
  refine ar_add ?_ ?_
  refine an ?_ ?_
  (show (-9223372036854775808:Int)≤(↑(4:Nat):Int)+(1:Int); omega)
  (show (↑(4:Nat):Int)+(1:Int)≤(9223372036854775807:Int); omega)
  rotate_left
  all_goals exact fin
 | 5,_,m0,m1,m2,m3,m4,m5,m6,m7 =>
  have fin:∃ a':K9,((a'.n≤8∧Mix a'.n a'.c ⟨0,0,0,0,0,0,0,0⟩ q)∧8 - a'.n < 8 - 5)∧(⟨[(1,.ptr 0 0),(2,.ptr 1 0),(4,.ptr 2 0),(5,.d (.int .i64 (((5:Nat):Int)+1)))],[.cbox [.int .u8 p.a,.int .u8 p.b,.int .u8 p.c,.int .u8 p.d,.int .u8 p.e,.int .u8 p.f,.int .u8 p.g,.int .u8 p.h,.int .u8 q.a,.int .u8 q.b,.int .u8 q.c,.int .u8 q.d,.int .u8 q.e,.int .u8 q.f,.int .u8 q.g,.int .u8 q.h],.box [.d (.int .i64 0),.d (.int .i64 0),.d (.int .u8 0),.d (.int .u8 0),.d (.int .u8 0),.d (.int .u8 0),.d (.int .u8 0),.d (.int .u8 0),.d (.int .u8 0),.d (.int .u8 0)],.box [.d (.int .i64 (nu p.a p.b p.c p.d 4)),.d (.int .i64 (nu p.e p.f p.g p.h 4)),.d (.int .u8 (c.a)),.d (.int .u8 (c.b)),.d (.int .u8 (c.c)),.d (.int .u8 (c.d)),.d (.int .u8 (c.e)),.d (.int .u8 (q.f)),.d (.int .u8 (c.g)),.d (.int .u8 (c.h))]]⟩:St)=⟨[(1,.ptr 0 0),(2,.ptr 1 0),(4,.ptr 2 0),(5,.d (.int .i64 ((a'.n:Nat))))],[.cbox [.int .u8 p.a,.int .u8 p.b,.int .u8 p.c,.int .u8 p.d,.int .u8 p.e,.int .u8 p.f,.int .u8 p.g,.int .u8 p.h,.int .u8 q.a,.int .u8 q.b,.int .u8 q.c,.int .u8 q.d,.int .u8 q.e,.int .u8 q.f,.int .u8 q.g,.int .u8 q.h],.box [.d (.int .i64 0),.d (.int .i64 0),.d (.int .u8 0),.d (.int .u8 0),.d (.int .u8 0),.d (.int .u8 0),.d (.int .u8 0),.d (.int .u8 0),.d (.int .u8 0),.d (.int .u8 0)],.box [.d (.int .i64 (nu p.a p.b p.c p.d 4)),.d (.int .i64 (nu p.e p.f p.g p.h 4)),.d (.int .u8 (a'.c.a)),.d (.int .u8 (a'.c.b)),.d (.int .u8 (a'.c.c)),.d (.int .u8 (a'.c.d)),.d (.int .u8 (a'.c.e)),.d (.int .u8 (a'.c.f)),.d (.int .u8 (a'.c.g)),.d (.int .u8 (a'.c.h))]]⟩:=⟨⟨6,⟨c.a,c.b,c.c,c.d,c.e,q.f,c.g,c.h⟩⟩,⟨⟨by show 6≤8; decide,m0,m1,m2,m3,m4,rfl,m6,m7⟩,by show 8 - 6 < 8 - 5; decide⟩,rfl⟩
  refine sd ?_
  refine ar_add ?_ ?_
  refine an ?_ ?_
  (show (-9223372036854775808:Int)≤(8:Int)+(↑(5:Nat):Int); omega)
  (show (8:Int)+(↑(5:Nat):Int)≤(9223372036854775807:Int); omega)
  refine an ?_ ?_
  refine an ?_ ?_
  (show (0:Int)≤(8:Int)+(↑(5:Nat):Int); omega)
  (show (8:Int)+(↑(5:Nat):Int) < (↑(16:Nat):Int); omega)
  refine an ?_ ?_
  refine an ?_ ?_
  (show (0:Int)≤(↑(5:Nat):Int); omega)
  (show (↑(5:Nat):Int) < (↑(8:Nat):Int); omega)
  refine ar_add ?_ ?_
  refine an ?_ ?_
  (show (-9223372036854775808:Int)≤(↑(5:Nat):Int)+(1:Int); omega)
  (show (↑(5:Nat):Int)+(1:Int)≤(9223372036854775807:Int); omega)
  rotate_left
  all_goals exact fin
 | 6,_,m0,m1,m2,m3,m4,m5,m6,m7 =>
  have fin:∃ a':K9,((a'.n≤8∧Mix a'.n a'.c ⟨0,0,0,0,0,0,0,0⟩ q)∧8 - a'.n < 8 - 6)∧(⟨[(1,.ptr 0 0),(2,.ptr 1 0),(4,.ptr 2 0),(5,.d (.int .i64 (((6:Nat):Int)+1)))],[.cbox [.int .u8 p.a,.int .u8 p.b,.int .u8 p.c,.int .u8 p.d,.int .u8 p.e,.int .u8 p.f,.int .u8 p.g,.int .u8 p.h,.int .u8 q.a,.int .u8 q.b,.int .u8 q.c,.int .u8 q.d,.int .u8 q.e,.int .u8 q.f,.int .u8 q.g,.int .u8 q.h],.box [.d (.int .i64 0),.d (.int .i64 0),.d (.int .u8 0),.d (.int .u8 0),.d (.int .u8 0),.d (.int .u8 0),.d (.int .u8 0),.d (.int .u8 0),.d (.int .u8 0),.d (.int .u8 0)],.box [.d (.int .i64 (nu p.a p.b p.c p.d 4)),.d (.int .i64 (nu p.e p.f p.g p.h 4)),.d (.int .u8 (c.a)),.d (.int .u8 (c.b)),.d (.int .u8 (c.c)),.d (.int .u8 (c.d)),.d (.int .u8 (c.e)),.d (.int .u8 (c.f)),.d (.int .u8 (q.g)),.d (.int .u8 (c.h))]]⟩:St)=⟨[(1,.ptr 0 0),(2,.ptr 1 0),(4,.ptr 2 0),(5,.d (.int .i64 ((a'.n:Nat))))],[.cbox [.int .u8 p.a,.int .u8 p.b,.int .u8 p.c,.int .u8 p.d,.int .u8 p.e,.int .u8 p.f,.int .u8 p.g,.int .u8 p.h,.int .u8 q.a,.int .u8 q.b,.int .u8 q.c,.int .u8 q.d,.int .u8 q.e,.int .u8 q.f,.int .u8 q.g,.int .u8 q.h],.box [.d (.int .i64 0),.d (.int .i64 0),.d (.int .u8 0),.d (.int .u8 0),.d (.int .u8 0),.d (.int .u8 0),.d (.int .u8 0),.d (.int .u8 0),.d (.int .u8 0),.d (.int .u8 0)],.box [.d (.int .i64 (nu p.a p.b p.c p.d 4)),.d (.int .i64 (nu p.e p.f p.g p.h 4)),.d (.int .u8 (a'.c.a)),.d (.int .u8 (a'.c.b)),.d (.int .u8 (a'.c.c)),.d (.int .u8 (a'.c.d)),.d (.int .u8 (a'.c.e)),.d (.int .u8 (a'.c.f)),.d (.int .u8 (a'.c.g)),.d (.int .u8 (a'.c.h))]]⟩:=⟨⟨7,⟨c.a,c.b,c.c,c.d,c.e,c.f,q.g,c.h⟩⟩,⟨⟨by show 7≤8; decide,m0,m1,m2,m3,m4,m5,rfl,m7⟩,by show 8 - 7 < 8 - 6; decide⟩,rfl⟩
  refine sd ?_
  refine ar_add ?_ ?_
  refine an ?_ ?_
  (show (-9223372036854775808:Int)≤(8:Int)+(↑(6:Nat):Int); omega)
  (show (8:Int)+(↑(6:Nat):Int)≤(9223372036854775807:Int); omega)
  refine an ?_ ?_
  refine an ?_ ?_
  (show (0:Int)≤(8:Int)+(↑(6:Nat):Int); omega)
  (show (8:Int)+(↑(6:Nat):Int) < (↑(16:Nat):Int); omega)
  refine an ?_ ?_
  refine an ?_ ?_
  (show (0:Int)≤(↑(6:Nat):Int); omega)
  (show (↑(6:Nat):Int) < (↑(8:Nat):Int); omega)
  refine ar_add ?_ ?_
  refine an ?_ ?_
  (show (-9223372036854775808:Int)≤(↑(6:Nat):Int)+(1:Int); omega)
  (show (↑(6:Nat):Int)+(1:Int)≤(9223372036854775807:Int); omega)
  rotate_left
  all_goals exact fin
 | 7,_,m0,m1,m2,m3,m4,m5,m6,m7 =>
  have fin:∃ a':K9,((a'.n≤8∧Mix a'.n a'.c ⟨0,0,0,0,0,0,0,0⟩ q)∧8 - a'.n < 8 - 7)∧(⟨[(1,.ptr 0 0),(2,.ptr 1 0),(4,.ptr 2 0),(5,.d (.int .i64 (((7:Nat):Int)+1)))],[.cbox [.int .u8 p.a,.int .u8 p.b,.int .u8 p.c,.int .u8 p.d,.int .u8 p.e,.int .u8 p.f,.int .u8 p.g,.int .u8 p.h,.int .u8 q.a,.int .u8 q.b,.int .u8 q.c,.int .u8 q.d,.int .u8 q.e,.int .u8 q.f,.int .u8 q.g,.int .u8 q.h],.box [.d (.int .i64 0),.d (.int .i64 0),.d (.int .u8 0),.d (.int .u8 0),.d (.int .u8 0),.d (.int .u8 0),.d (.int .u8 0),.d (.int .u8 0),.d (.int .u8 0),.d (.int .u8 0)],.box [.d (.int .i64 (nu p.a p.b p.c p.d 4)),.d (.int .i64 (nu p.e p.f p.g p.h 4)),.d (.int .u8 (c.a)),.d (.int .u8 (c.b)),.d (.int .u8 (c.c)),.d (.int .u8 (c.d)),.d (.int .u8 (c.e)),.d (.int .u8 (c.f)),.d (.int .u8 (c.g)),.d (.int .u8 (q.h))]]⟩:St)=⟨[(1,.ptr 0 0),(2,.ptr 1 0),(4,.ptr 2 0),(5,.d (.int .i64 ((a'.n:Nat))))],[.cbox [.int .u8 p.a,.int .u8 p.b,.int .u8 p.c,.int .u8 p.d,.int .u8 p.e,.int .u8 p.f,.int .u8 p.g,.int .u8 p.h,.int .u8 q.a,.int .u8 q.b,.int .u8 q.c,.int .u8 q.d,.int .u8 q.e,.int .u8 q.f,.int .u8 q.g,.int .u8 q.h],.box [.d (.int .i64 0),.d (.int .i64 0),.d (.int .u8 0),.d (.int .u8 0),.d (.int .u8 0),.d (.int .u8 0),.d (.int .u8 0),.d (.int .u8 0),.d (.int .u8 0),.d (.int .u8 0)],.box [.d (.int .i64 (nu p.a p.b p.c p.d 4)),.d (.int .i64 (nu p.e p.f p.g p.h 4)),.d (.int .u8 (a'.c.a)),.d (.int .u8 (a'.c.b)),.d (.int .u8 (a'.c.c)),.d (.int .u8 (a'.c.d)),.d (.int .u8 (a'.c.e)),.d (.int .u8 (a'.c.f)),.d (.int .u8 (a'.c.g)),.d (.int .u8 (a'.c.h))]]⟩:=⟨⟨8,⟨c.a,c.b,c.c,c.d,c.e,c.f,c.g,q.h⟩⟩,⟨⟨by show 8≤8; decide,m0,m1,m2,m3,m4,m5,m6,rfl⟩,by show 8 - 8 < 8 - 7; decide⟩,rfl⟩
  refine sd ?_
  refine ar_add ?_ ?_
  refine an ?_ ?_
  (show (-9223372036854775808:Int)≤(8:Int)+(↑(7:Nat):Int); omega)
  (show (8:Int)+(↑(7:Nat):Int)≤(9223372036854775807:Int); omega)
  refine an ?_ ?_
  refine an ?_ ?_
  (show (0:Int)≤(8:Int)+(↑(7:Nat):Int); omega)
  (show (8:Int)+(↑(7:Nat):Int) < (↑(16:Nat):Int); omega)
  refine an ?_ ?_
  refine an ?_ ?_
  (show (0:Int)≤(↑(7:Nat):Int); omega)
  (show (↑(7:Nat):Int) < (↑(8:Nat):Int); omega)
  refine ar_add ?_ ?_
  refine an ?_ ?_
  (show (-9223372036854775808:Int)≤(↑(7:Nat):Int)+(1:Int); omega)
  (show (↑(7:Nat):Int)+(1:Int)≤(9223372036854775807:Int); omega)
  rotate_left
  all_goals exact fin
 | 8,_,m0,m1,m2,m3,m4,m5,m6,m7 =>
  obtain ⟨c0,c1,c2,c3,c4,c5,c6,c7⟩:=c
  obtain ⟨d0,d1,d2,d3,d4,d5,d6,d7⟩:=q
  have e0:c0=d0:=m0
  have e1:c1=d1:=m1
  have e2:c2=d2:=m2
  have e3:c3=d3:=m3
  have e4:c4=d4:=m4
  have e5:c5=d5:=m5
  have e6:c6=d6:=m6
  have e7:c7=d7:=m7
  clear m0 m1 m2 m3 m4 m5 m6 m7
  subst e0 e1 e2 e3 e4 e5 e6 e7
  by_cases h0:ckT (nu p.a p.b p.c p.d 4) (nu p.e p.f p.g p.h 4)=0
  ·rw [h0] at c31_ ⊢
   refine sd ?_
   refine ca c31_ ?_
   refine sd ?_
   exact rfl
  ·rw [bne_t h0]
   refine sd ?_
   refine ca c31_ ?_
   refine sd ?_
   refine b_ne (fun t1=>?_) (fun t1=>?_)
   exact rfl
   (exfalso; omega)
 | _+9,hn,_,_,_,_,_,_,_,_=>exact absurd hn (by omega)
end Vc
