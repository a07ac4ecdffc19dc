import Derived.Test.YtmjbifmndhianaaGreatDoorG16
import Derived.Test.YtmjbifmndhianaaGreatDoorG14
import Derived.Test.YtmjbifmndhianaaGreatDoorG08
set_option linter.unusedSectionVars false
set_option linter.unusedVariables false
set_option linter.unusedSimpArgs false
set_option maxRecDepth 10000
set_option maxHeartbeats 4000000
namespace Vc
open Go Go.Proofs
@[irreducible] def seg100:ACode:=(.loop
 (.post [2,3,4,6,20,21,22] []
 (.seq
 (.reg [] [⟨some 23,.cmp .lss (.tmp 22) (.tmp 21),none⟩])
 (.seq
 (.cond (.tmp 23)
 .skip
 (.exit 0))
 (.seq
 (.block 1
 (.seq
 (.reg [] [⟨some 24,.ixa 1 (.tmp 20) (.tmp 22),none⟩,
 ⟨some 25,.ld false 1 (.tmp 24),none⟩,
 ⟨some 8,.mov (.tmp 25),none⟩])
 (.reg [] [⟨some 26,.mov (.tmp 6),none⟩,
 ⟨some 27,.mov (.tmp 8),none⟩,
 ⟨none,.mpu (some .i64) (.tmp 26) (.tmp 27) (.cst (.d (.bool true))),none⟩])))
 (.reg [] [⟨some 28,.arith .add .i64 (.tmp 22) (.cst (.d (.int .i64 1))),none⟩,
 ⟨some 22,.mov (.tmp 28),none⟩]))))))
def jr140:AFun:=⟨23,2,[.tmp 4],
 (.seq
 (.reg [0,1] [⟨some 2,.cbx 0 22 (.tmp 0),none⟩,
  ⟨some 3,.cbx 1 10 (.tmp 1),none⟩,
  ⟨some 4,.mov (.cst (.d (.bool false))),none⟩])
 (.seq
  (.regd [] [⟨some 5,.ld true 10 (.tmp 3),none⟩,
   ⟨some 6,.ld true 10 (.tmp 3),none⟩,
   ⟨some 7,.fad 4 (.tmp 2),none⟩,
   ⟨some 8,.ld true 8 (.tmp 7),none⟩,
   ⟨some 9,.call 106 [(.tmp 6),(.tmp 8)],none⟩,
   ⟨some 10,.aeq false [0,0,0,0,0,0,0,0,0,0] (.tmp 5) (.tmp 9),none⟩,
   ⟨some 11,.mov (.tmp 10),none⟩,
   ⟨some 12,.fad 20 (.tmp 2),some (11,false)⟩,
   ⟨some 13,.ld false 1 (.tmp 12),some (11,false)⟩,
   ⟨some 14,.mov (.tmp 13),some (11,false)⟩,
   ⟨some 15,.ld true 10 (.tmp 3),some (14,true)⟩,
   ⟨some 16,.ld true 10 (.tmp 3),some (14,true)⟩,
   ⟨some 17,.fad 12 (.tmp 2),some (14,true)⟩,
   ⟨some 18,.ld true 8 (.tmp 17),some (14,true)⟩,
   ⟨some 19,.call 106 [(.tmp 16),(.tmp 18)],some (14,true)⟩,
   ⟨some 20,.aeq false [0,0,0,0,0,0,0,0,0,0] (.tmp 15) (.tmp 19),some (14,true)⟩,
   ⟨some 21,.pick (.tmp 14) (.tmp 20) (.cst (.d (.bool false))),some (11,false)⟩,
   ⟨some 22,.pick (.tmp 11) (.cst (.d (.bool true))) (.tmp 21),none⟩,
   ⟨some 4,.mov (.tmp 22),none⟩] [(0,1),(0,2),(1,2),(0,3),(1,3),(0,4),(10,11),(10,12),(11,12),(10,13),(11,13),(10,14)])
  .ret))⟩
def jr100:AFun:=⟨87,11,[.cell 4 22 true,.tmp 5],
 (.seq
 (.reg [0,1,2] [⟨some 2,.cbx 0 22 (.tmp 0),none⟩,
  ⟨some 3,.cbx 1 10 (.tmp 1),none⟩,
  ⟨some 4,.alloc 2 [(.d (.int .i64 0)),(.d (.int .i64 0)),(.d (.int .i64 0)),(.d (.int .i64 0)),(.d (.int .u8 0)),(.d (.int .u8 0)),(.d (.int .u8 0)),(.d (.int .u8 0)),(.d (.int .u8 0)),(.d (.int .u8 0)),(.d (.int .u8 0)),(.d (.int .u8 0)),(.d (.int .u8 0)),(.d (.int .u8 0)),(.d (.int .u8 0)),(.d (.int .u8 0)),(.d (.int .u8 0)),(.d (.int .u8 0)),(.d (.int .u8 0)),(.d (.int .u8 0)),(.d (.bool false)),(.nils 1)],none⟩,
  ⟨some 5,.mov (.cst (.d (.int .i64 0))),none⟩])
 (.seq
  (.seq
  (.reg [] [⟨some 13,.ld true 22 (.tmp 2),none⟩,
   ⟨some 14,.ld true 10 (.tmp 3),none⟩,
   ⟨some 15,.call 140 [(.tmp 13),(.tmp 14)],none⟩,
   ⟨some 16,.not (.tmp 15),none⟩])
  (.cond (.tmp 16)
   (.seq
   (.reg [] [⟨some 17,.ld true 22 (.tmp 2),none⟩,
    ⟨none,.st 22 (.tmp 4) (.tmp 17),none⟩,
    ⟨some 5,.mov (.cst (.d (.int .i64 27))),none⟩])
   .ret)
   .skip))
  (.seq
  (.reg [3] [⟨some 18,.mkm 3,none⟩,
   ⟨some 6,.mov (.tmp 18),none⟩])
  (.seq
   (.seq
   (.reg [] [⟨some 19,.fad 21 (.tmp 2),none⟩,
    ⟨some 20,.ld false 1 (.tmp 19),none⟩,
    ⟨some 21,.len (.tmp 20),none⟩,
    ⟨some 22,.mov (.cst (.d (.int .i64 0))),none⟩])
   (.post [2,3,4,6] [0,1,2,3]
    (.block 0
    (.keep [2,3,4,6,20,21,22] [0,1,2,3]
     seg100))))
   (.seq
   (.reg [] [⟨some 29,.fad 1 (.tmp 2),none⟩,
    ⟨some 30,.ld false 1 (.tmp 29),none⟩,
    ⟨some 31,.fad 1 (.tmp 3),none⟩,
    ⟨some 32,.ld false 1 (.tmp 31),none⟩,
    ⟨some 33,.fad 2 (.tmp 2),none⟩,
    ⟨some 34,.ld false 1 (.tmp 33),none⟩,
    ⟨some 35,.arith .mul .i64 (.tmp 32) (.tmp 34),none⟩,
    ⟨some 36,.arith .quo .i64 (.tmp 35) (.cst (.d (.int .i64 100))),none⟩,
    ⟨some 37,.mini (.tmp 30) (.tmp 36),none⟩,
    ⟨some 9,.mov (.tmp 37),none⟩])
   (.seq
    (.reg [] [⟨some 38,.fad 1 (.tmp 3),none⟩,
     ⟨some 39,.ld false 1 (.tmp 38),none⟩,
     ⟨some 40,.mov (.tmp 9),none⟩,
     ⟨some 41,.arith .sub .i64 (.tmp 39) (.tmp 40),none⟩,
     ⟨some 10,.mov (.tmp 41),none⟩])
    (.seq
    (.seq
     (.regd [4] [⟨some 42,.mov (.tmp 6),none⟩,
      ⟨some 43,.fad 0 (.tmp 3),none⟩,
      ⟨some 44,.ld false 1 (.tmp 43),none⟩,
      ⟨some 45,.lkp (some .i64) (.bool false) false (.tmp 42) (.tmp 44),none⟩,
      ⟨some 46,.call 92 [(.tmp 45),(.cst (.d (.int .i64 9)))],none⟩,
      ⟨some 47,.fad 21 (.tmp 2),none⟩,
      ⟨some 48,.ld false 1 (.tmp 47),none⟩,
      ⟨some 49,.len (.tmp 48),none⟩,
      ⟨some 50,.cmp .eql (.tmp 49) (.cst (.d (.int .i64 256))),none⟩,
      ⟨some 51,.call 92 [(.tmp 50),(.cst (.d (.int .i64 5)))],none⟩,
      ⟨some 52,.fad 0 (.tmp 2),none⟩,
      ⟨some 53,.ld false 1 (.tmp 52),none⟩,
      ⟨some 54,.mov (.tmp 10),none⟩,
      ⟨some 55,.arith .sub .i64 (.cst (.d (.int .i64 1000000000000))) (.tmp 54),none⟩,
      ⟨some 56,.cmp .gtr (.tmp 53) (.tmp 55),none⟩,
      ⟨some 57,.call 92 [(.tmp 56),(.cst (.d (.int .i64 4)))],none⟩,
      ⟨some 58,.bsl 4 30 1 3 [(.int .i64 0),(.int .i64 0),(.int .i64 0)] [(0,(.tmp 46)),(1,(.tmp 51)),(2,(.tmp 57))],none⟩,
      ⟨some 59,.call 90 [(.tmp 58)],none⟩,
      ⟨some 11,.mov (.tmp 59),none⟩] [(0,1),(0,2),(0,5),(1,5),(2,5),(3,5),(4,5),(0,6),(1,6),(2,6),(3,6),(4,6),(0,7),(1,7),(2,7),(3,7),(4,7),(0,8),(1,8),(2,8),(3,8),(4,8),(0,10),(1,10),(2,10),(3,10),(4,10),(5,10),(6,10),(7,10),(8,10),(9,10),(0,11),(1,11),(2,11),(3,11),(4,11),(5,11),(6,11),(7,11),(8,11),(9,11),(0,12),(1,12),(2,12),(3,12),(4,12),(5,12),(6,12),(7,12),(8,12),(9,12),(10,12),(11,12),(0,13),(1,13),(2,13),(3,13),(4,13),(5,13),(6,13),(7,13),(8,13),(9,13),(10,13),(11,13),(0,14),(1,14),(2,14),(3,14),(4,14),(5,14),(6,14),(7,14),(8,14),(9,14)])
     (.seq
     (.reg [] [⟨some 60,.mov (.tmp 11),none⟩,
      ⟨some 61,.cmp .neq (.tmp 60) (.cst (.d (.int .i64 0))),none⟩])
     (.cond (.tmp 61)
      (.seq
      (.reg [] [⟨some 62,.ld true 22 (.tmp 2),none⟩,
       ⟨some 63,.mov (.tmp 11),none⟩,
       ⟨none,.st 22 (.tmp 4) (.tmp 62),none⟩,
       ⟨some 5,.mov (.tmp 63),none⟩])
      .ret)
      .skip)))
    (.seq
     (.reg [5] [⟨some 64,.ld true 22 (.tmp 2),none⟩,
      ⟨some 65,.calli 93 [(.tmp 64)],none⟩,
      ⟨some 12,.alloc 5 [(.d (.int .i64 0)),(.d (.int .i64 0)),(.d (.int .i64 0)),(.d (.int .i64 0)),(.d (.int .u8 0)),(.d (.int .u8 0)),(.d (.int .u8 0)),(.d (.int .u8 0)),(.d (.int .u8 0)),(.d (.int .u8 0)),(.d (.int .u8 0)),(.d (.int .u8 0)),(.d (.int .u8 0)),(.d (.int .u8 0)),(.d (.int .u8 0)),(.d (.int .u8 0)),(.d (.int .u8 0)),(.d (.int .u8 0)),(.d (.int .u8 0)),(.d (.int .u8 0)),(.d (.bool false)),(.nils 1)],none⟩,
      ⟨none,.st 22 (.tmp 12) (.tmp 65),none⟩])
     (.seq
     (.reg [] [⟨some 66,.fad 1 (.tmp 12),none⟩,
      ⟨some 67,.ld false 1 (.tmp 66),none⟩,
      ⟨some 68,.mov (.tmp 9),none⟩,
      ⟨some 69,.arith .sub .i64 (.tmp 67) (.tmp 68),none⟩,
      ⟨some 70,.fad 1 (.tmp 12),none⟩,
      ⟨none,.st 1 (.tmp 70) (.tmp 69),none⟩])
     (.seq
      (.reg [] [⟨some 71,.fad 0 (.tmp 12),none⟩,
       ⟨some 72,.ld false 1 (.tmp 71),none⟩,
       ⟨some 73,.mov (.tmp 10),none⟩,
       ⟨some 74,.arith .add .i64 (.tmp 72) (.tmp 73),none⟩,
       ⟨some 75,.fad 0 (.tmp 12),none⟩,
       ⟨none,.st 1 (.tmp 75) (.tmp 74),none⟩])
      (.seq
      (.reg [6,7] [⟨some 76,.fad 21 (.tmp 12),none⟩,
       ⟨some 77,.ld false 1 (.tmp 76),none⟩,
       ⟨some 78,.fad 0 (.tmp 3),none⟩,
       ⟨some 79,.ld false 1 (.tmp 78),none⟩,
       ⟨some 80,.bsl 6 3 1 1 [(.int .i64 0)] [(0,(.tmp 79))],none⟩,
       ⟨some 81,.app 7 3 1 8 (.tmp 77) (.tmp 80),none⟩,
       ⟨some 82,.fad 21 (.tmp 12),none⟩,
       ⟨none,.st 1 (.tmp 82) (.tmp 81),none⟩])
      (.seq
       (.reg [] [⟨some 83,.fad 21 (.tmp 12),none⟩,
        ⟨some 84,.ld false 1 (.tmp 83),none⟩,
        ⟨some 85,.calli 141 [(.tmp 84)],none⟩])
       (.seq
       (.reg [] [⟨some 86,.ld true 22 (.tmp 12),none⟩,
        ⟨none,.st 22 (.tmp 4) (.tmp 86),none⟩,
        ⟨some 5,.mov (.cst (.d (.int .i64 0))),none⟩])
       .ret)))))))))))))⟩
def jr28:AFun:=⟨30,5,[.cell 4 22 true,.tmp 5],
 (.seq
 (.reg [0,1,2] [⟨some 2,.cbx 0 22 (.tmp 0),none⟩,
  ⟨some 3,.cbx 1 10 (.tmp 1),none⟩,
  ⟨some 4,.alloc 2 [(.d (.int .i64 0)),(.d (.int .i64 0)),(.d (.int .i64 0)),(.d (.int .i64 0)),(.d (.int .u8 0)),(.d (.int .u8 0)),(.d (.int .u8 0)),(.d (.int .u8 0)),(.d (.int .u8 0)),(.d (.int .u8 0)),(.d (.int .u8 0)),(.d (.int .u8 0)),(.d (.int .u8 0)),(.d (.int .u8 0)),(.d (.int .u8 0)),(.d (.int .u8 0)),(.d (.int .u8 0)),(.d (.int .u8 0)),(.d (.int .u8 0)),(.d (.int .u8 0)),(.d (.bool false)),(.nils 1)],none⟩,
  ⟨some 5,.mov (.cst (.d (.int .i64 0))),none⟩])
 (.seq
  (.seq
  (.regd [3] [⟨some 9,.ld true 22 (.tmp 2),none⟩,
   ⟨some 10,.call 25 [(.tmp 9)],none⟩,
   ⟨some 11,.ld true 10 (.tmp 3),none⟩,
   ⟨some 12,.call 99 [(.tmp 11)],none⟩,
   ⟨some 13,.bsl 3 30 1 2 [(.int .i64 0),(.int .i64 0)] [(0,(.tmp 10)),(1,(.tmp 12))],none⟩,
   ⟨some 14,.call 90 [(.tmp 13)],none⟩,
   ⟨some 6,.mov (.tmp 14),none⟩] [(0,2),(1,2)])
  (.seq
   (.reg [] [⟨some 15,.mov (.tmp 6),none⟩,
    ⟨some 16,.cmp .neq (.tmp 15) (.cst (.d (.int .i64 0))),none⟩])
   (.cond (.tmp 16)
   (.seq
    (.reg [] [⟨some 17,.build [(.d (.int .i64 0)),(.d (.int .i64 0)),(.d (.int .i64 0)),(.d (.int .i64 0)),(.d (.int .u8 0)),(.d (.int .u8 0)),(.d (.int .u8 0)),(.d (.int .u8 0)),(.d (.int .u8 0)),(.d (.int .u8 0)),(.d (.int .u8 0)),(.d (.int .u8 0)),(.d (.int .u8 0)),(.d (.int .u8 0)),(.d (.int .u8 0)),(.d (.int .u8 0)),(.d (.int .u8 0)),(.d (.int .u8 0)),(.d (.int .u8 0)),(.d (.int .u8 0)),(.d (.bool false)),(.nils 1)] [],none⟩,
     ⟨some 18,.mov (.tmp 6),none⟩,
     ⟨none,.st 22 (.tmp 4) (.tmp 17),none⟩,
     ⟨some 5,.mov (.tmp 18),none⟩])
    .ret)
   .skip)))
  (.seq
  (.reg [4] [⟨some 20,.ld true 22 (.tmp 2),none⟩,
   ⟨some 21,.ld true 10 (.tmp 3),none⟩,
   ⟨some 22,.call 100 [(.tmp 20),(.tmp 21)],none⟩,
   ⟨some 19,.mov (.tmp 22),none⟩,
   ⟨some 23,.ext 0 (.tmp 19),none⟩,
   ⟨some 24,.ext 1 (.tmp 19),none⟩,
   ⟨some 7,.alloc 4 [(.d (.int .i64 0)),(.d (.int .i64 0)),(.d (.int .i64 0)),(.d (.int .i64 0)),(.d (.int .u8 0)),(.d (.int .u8 0)),(.d (.int .u8 0)),(.d (.int .u8 0)),(.d (.int .u8 0)),(.d (.int .u8 0)),(.d (.int .u8 0)),(.d (.int .u8 0)),(.d (.int .u8 0)),(.d (.int .u8 0)),(.d (.int .u8 0)),(.d (.int .u8 0)),(.d (.int .u8 0)),(.d (.int .u8 0)),(.d (.int .u8 0)),(.d (.int .u8 0)),(.d (.bool false)),(.nils 1)],none⟩,
   ⟨none,.st 22 (.tmp 7) (.tmp 23),none⟩,
   ⟨some 8,.mov (.tmp 24),none⟩])
  (.seq
   (.seq
   (.reg [] [⟨some 25,.mov (.tmp 8),none⟩,
    ⟨some 26,.cmp .neq (.tmp 25) (.cst (.d (.int .i64 0))),none⟩])
   (.cond (.tmp 26)
    (.seq
    (.reg [] [⟨some 27,.build [(.d (.int .i64 0)),(.d (.int .i64 0)),(.d (.int .i64 0)),(.d (.int .i64 0)),(.d (.int .u8 0)),(.d (.int .u8 0)),(.d (.int .u8 0)),(.d (.int .u8 0)),(.d (.int .u8 0)),(.d (.int .u8 0)),(.d (.int .u8 0)),(.d (.int .u8 0)),(.d (.int .u8 0)),(.d (.int .u8 0)),(.d (.int .u8 0)),(.d (.int .u8 0)),(.d (.int .u8 0)),(.d (.int .u8 0)),(.d (.int .u8 0)),(.d (.int .u8 0)),(.d (.bool false)),(.nils 1)] [],none⟩,
     ⟨some 28,.mov (.tmp 8),none⟩,
     ⟨none,.st 22 (.tmp 4) (.tmp 27),none⟩,
     ⟨some 5,.mov (.tmp 28),none⟩])
    .ret)
    .skip))
   (.seq
   (.reg [] [⟨some 29,.ld true 22 (.tmp 7),none⟩,
    ⟨none,.st 22 (.tmp 4) (.tmp 29),none⟩,
    ⟨some 5,.mov (.cst (.d (.int .i64 0))),none⟩])
   .ret)))))⟩
theorem fo_z {r:List Int}:firstOf ((0:Int)::r)=firstOf r:=rfl
theorem ckA_F {a:Ac} {c:Bool} (h:ckA a c=0):ckF a c=0:=by
 by_cases e:ckF a c=0
 ·exact e
 ·rw [ckA,bne_t e] at h; exact h
theorem ckA_ds {a:Ac} {c:Bool} (h:ckA a c=0):(0≤a.d∧a.d≤1000000000000)∧0≤a.s∧a.s≤100 :=
 ⟨within_ok (firstOf_zero (ckA_F h) (within3 a.d 0 1000000000000) (by simp)),within_ok (firstOf_zero (ckA_F h) (within3 a.s 0 100) (by simp))⟩
theorem ckA_len {a:Ac} {c:Bool} (h:ckA a c=0):a.u.length≤256:=by
 have h2:=firstOf_zero (ckA_F h) (bif decide ((256:Int) < (((ints a.u).length:Nat):Int)) then 5 else 0) (by simp)
 have hl:(ints a.u).length=a.u.length:=List.length_map _
 rw [hl] at h2
 by_cases e:(256:Int) < ((a.u.length:Nat):Int)
 ·rw [decide_eq_true e] at h2; cases h2
 ·omega
theorem ckA_asc {a:Ac} {c:Bool} (h:ckA a c=0):Asc a.u∧∀ x∈a.u,0 < x∧x≤999999999:=by
 have e:=ckA_0 (ckA_F h)
 rw [h] at e
 exact (ckU_asc (Int.le_refl 0)).1 e.symm
def va (a:Ac) (c:Bool) (n m:Int) (q:Ky):Bool:=keq q (sealK a.k (o4 n++o4 m))||(c&&keq q (sealK a.n (o4 n++o4 m)))
def pay (a:Ac) (m:Int):Int:=min a.d (m * a.s / 100)
theorem pay_b {a:Ac} {c:Bool} {m:Int} (h:ckA a c=0) (h1:1≤m) (h2:m≤100000000):(0≤m * a.s∧m * a.s≤10000000000)∧0≤pay a m∧pay a m≤a.d∧pay a m≤m∧100 * pay a m≤m * a.s:=by
 obtain ⟨hd,hs0,hs1⟩:=ckA_ds h
 have h3:0≤m * a.s:=Int.mul_nonneg (by omega) hs0
 have h4:m * a.s≤100000000 * 100:=Int.mul_le_mul h2 hs1 hs0 (by omega)
 have h5:m * a.s≤m * 100:=Int.mul_le_mul_of_nonneg_left hs1 (by omega)
 unfold pay
 generalize m * a.s=P at *
 omega
def KI (R:List Int):List (Data × Data):=R.map fun n=>(Data.int .i64 n,Data.bool true)
theorem dEq_i (x y:Int):dEq (.int .i64 x) (.int .i64 y)=(x==y):=by
 show _=_
 simp [dEq]
theorem KI_keys:∀ l:List Int,keysOk (some .i64) (KI l)=true
 | []=>rfl
 | n::r=>KI_keys r
theorem KI_find (x:Int):∀ l:List Int,findM (.int .i64 x) (KI l)=bif l.contains x then some (.bool true) else none
 | []=>rfl
 | n::r=>by
  show (match dEq (.int .i64 x) (.int .i64 n) with | true=>some (Data.bool true) | false=>findM (.int .i64 x) (KI r))=_
  rw [dEq_i,List.contains_cons]
  cases e:(x==n) with
  | true=>rfl
  | false=>show findM _ (KI r)=bif (false||r.contains x) then _ else _; rw [KI_find x r]; rfl
theorem KI_put (x:Int):∀ l:List Int,l.contains x=false→putM (.int .i64 x) (.bool true) (KI l)=KI (l++[x])
 | [],_=>rfl
 | n::r,h=>by
  rw [List.contains_cons,Bool.or_eq_false_iff] at h
  show (match dEq (.int .i64 x) (.int .i64 n) with | true=>_ | false=>_)=_
  rw [dEq_i,h.1]
  show (Data.int .i64 n,Data.bool true)::putM (.int .i64 x) (.bool true) (KI r)=_
  rw [KI_put x r h.2]; rfl
theorem KI_lk (n:Int) (L:List Int):(∃ y,findM (.int .i64 n) (KI L)=some y∧[Data.bool (L.contains n),Data.bool (L.contains n)]=[y,.bool true])∨(findM (.int .i64 n) (KI L)=none∧[Data.bool (L.contains n),Data.bool (L.contains n)]=[.bool false,.bool false]):=by
 rw [KI_find n L]
 rcases Bool.eq_false_or_eq_true (L.contains n) with e | e
 ·rw [e]; exact .inl ⟨_,rfl,rfl⟩
 ·rw [e]; exact .inr ⟨rfl,rfl⟩
theorem asc_new {l:List Int} {k:Nat} {x:Int} (h:Asc l) (hx:l[k]?=some x):(l.take k).contains x=false:=by
 rw [Bool.eq_false_iff]
 intro hc
 rw [List.contains_iff_mem] at hc
 obtain ⟨j,hj,he⟩:=List.mem_iff_getElem.1 hc
 rw [List.length_take] at hj
 rw [List.getElem_take] at he
 obtain ⟨hk,hxe⟩:=List.getElem?_eq_some_iff.1 hx
 have:=List.pairwise_iff_getElem.1 h j k (by omega) hk (by omega)
 omega
theorem sort_x {h:List AObj} {u:List Int} {n:Int} {N:Nat} (hh:h[10]?=some (.row 3 1 (ints u++[Data.int .i64 n]) false)) (hN:N=u.length+1) (hl:u.length≤1000000) (ha:Asc u) (hn:n∉u):CallIn Tryz.prog 141 [.sl 10 N] h (.tup []) (setAll h [(10,.row 3 1 (ints (insI n u)) false)]):=by
 subst hN
 have e:ints u++[Data.int .i64 n]=(u++[n]).map (Data.int .i64):=by unfold ints; rw [List.map_append]; rfl
 rw [e] at hh
 have hs:=sort_callIn (P:=Tryz.prog) (f:=141) (hasFnB_spec (by kernel_rfl)) Tryz.slices_Sort_int (id:=10) (t:=3) (zs:=u++[n]) hh (by simp) (by rw [List.length_append]; show u.length+1 < _; omega)
 rw [srt_ins ha hn,List.length_append] at hs
 exact hs
theorem nn_y {n m:Int} {X:Bool}:(n==n&&(m==m&&X))=X:=by simp
theorem nn_x {n m:Int} {X b:Bool} (h:(n==n&&(m==m&&X))=b):X=b:=by rw [← h]; exact nn_y.symm
theorem c140 (a:Ac) (c:Bool) (n m:Int) (q:Ky) (hk:a.k.ok) (hn:a.n.ok) (ht:ckT n m=0):CallDet Tryz.prog 140 [.d (.agg [.int .i64 (a.b),.int .i64 (a.d),.int .i64 a.s,.int .i64 a.e,.int .u8 a.k.a,.int .u8 a.k.b,.int .u8 a.k.c,.int .u8 a.k.d,.int .u8 a.k.e,.int .u8 a.k.f,.int .u8 a.k.g,.int .u8 a.k.h,.int .u8 a.n.a,.int .u8 a.n.b,.int .u8 a.n.c,.int .u8 a.n.d,.int .u8 a.n.e,.int .u8 a.n.f,.int .u8 a.n.g,.int .u8 a.n.h,.bool c,.slice 1 (ints a.u)]),.d (.agg [.int .i64 n,.int .i64 m,.int .u8 q.a,.int .u8 q.b,.int .u8 q.c,.int .u8 q.d,.int .u8 q.e,.int .u8 q.f,.int .u8 q.g,.int .u8 q.h])] [.bool (va a c n m q)]:=by
 obtain ⟨t1,t2⟩:=ckT_b ht
 have c106_1:=c106 n m q a.k hk (by omega) (by omega)
 have c106_2:=c106 n m q a.n hn (by omega) (by omega)
 refine call_of_vc (x:=jr140) (by kernel_rfl) rfl ?_
 refine ca c106_1 ?_
 refine ca (Exists.intro _ (And.intro rfl rfl)) ?_
 refine b_intro (fun t3=>?_) (fun t3=>?_)
 replace t3:(n==n&&(m==m&&(Ky.a q==Ky.a (sealK (Ac.k a) (o4 n++o4 m))&&(Ky.b q==Ky.b (sealK (Ac.k a) (o4 n++o4 m))&&(Ky.c q==Ky.c (sealK (Ac.k a) (o4 n++o4 m))&&(Ky.d q==Ky.d (sealK (Ac.k a) (o4 n++o4 m))&&(Ky.e q==Ky.e (sealK (Ac.k a) (o4 n++o4 m))&&(Ky.f q==Ky.f (sealK (Ac.k a) (o4 n++o4 m))&&(Ky.g q==Ky.g (sealK (Ac.k a) (o4 n++o4 m))&&(Ky.h q==Ky.h (sealK (Ac.k a) (o4 n++o4 m))&&true))))))))))=true:=t3
 refine sd ?_
 rotate_left
 replace t3:(n==n&&(m==m&&(Ky.a q==Ky.a (sealK (Ac.k a) (o4 n++o4 m))&&(Ky.b q==Ky.b (sealK (Ac.k a) (o4 n++o4 m))&&(Ky.c q==Ky.c (sealK (Ac.k a) (o4 n++o4 m))&&(Ky.d q==Ky.d (sealK (Ac.k a) (o4 n++o4 m))&&(Ky.e q==Ky.e (sealK (Ac.k a) (o4 n++o4 m))&&(Ky.f q==Ky.f (sealK (Ac.k a) (o4 n++o4 m))&&(Ky.g q==Ky.g (sealK (Ac.k a) (o4 n++o4 m))&&(Ky.h q==Ky.h (sealK (Ac.k a) (o4 n++o4 m))&&true))))))))))=false:=t3
 refine b_intro (fun t4=>?_) (fun t4=>?_)
 refine ca c106_2 ?_
 refine ca (Exists.intro _ (And.intro rfl rfl)) ?_
 rotate_left
 refine sd ?_
 rotate_left
 all_goals (obtain ⟨ha,hb⟩:=ckT_b ht)
 ·refine resB ?_
  have e3:keq q (sealK a.k (o4 n++o4 m))=true:=nn_x t3
  unfold va; rw [e3]; rfl
 ·refine resB ?_
  have e3:keq q (sealK a.k (o4 n++o4 m))=false:=nn_x t3
  unfold va; rw [e3,t4]
  show _=keq q (sealK a.n (o4 n++o4 m))
  exact nn_y
 ·refine resB ?_
  have e3:keq q (sealK a.k (o4 n++o4 m))=false:=nn_x t3
  unfold va; rw [e3,t4]; rfl
def jr93':AFun:=⟨15,3,[.cell 2 22 true],
 (.seq
 (.reg [0,1] [⟨some 1,.box 0 22 (.tmp 0),none⟩,
  ⟨some 2,.alloc 1 [(.d (.int .i64 0)),(.d (.int .i64 0)),(.d (.int .i64 0)),(.d (.int .i64 0)),(.d (.int .u8 0)),(.d (.int .u8 0)),(.d (.int .u8 0)),(.d (.int .u8 0)),(.d (.int .u8 0)),(.d (.int .u8 0)),(.d (.int .u8 0)),(.d (.int .u8 0)),(.d (.int .u8 0)),(.d (.int .u8 0)),(.d (.int .u8 0)),(.d (.int .u8 0)),(.d (.int .u8 0)),(.d (.int .u8 0)),(.d (.int .u8 0)),(.d (.int .u8 0)),(.d (.bool false)),(.nils 1)],none⟩])
 (.seq
  (.reg [2] [⟨some 4,.fad 21 (.tmp 1),none⟩,
   ⟨some 5,.ld false 1 (.tmp 4),none⟩,
   ⟨some 6,.len (.tmp 5),none⟩,
   ⟨some 7,.msl 2 3 1 8 (.int .i64 0) (.tmp 6),none⟩,
   ⟨some 3,.mov (.tmp 7),none⟩])
  (.seq
  (.reg [] [⟨some 8,.mov (.tmp 3),none⟩,
   ⟨some 9,.fad 21 (.tmp 1),none⟩,
   ⟨some 10,.ld false 1 (.tmp 9),none⟩,
   ⟨some 11,.copy 1 (.tmp 8) (.tmp 10),none⟩])
  (.seq
   (.reg [] [⟨some 12,.mov (.tmp 3),none⟩,
    ⟨some 13,.fad 21 (.tmp 1),none⟩,
    ⟨none,.st 1 (.tmp 13) (.tmp 12),none⟩])
   (.seq
   (.reg [] [⟨some 14,.ld true 22 (.tmp 1),none⟩,
    ⟨none,.st 22 (.tmp 2) (.tmp 14),none⟩])
   .ret)))))⟩
theorem i93 (a : Ac) (c : Bool) (n m : Int) (q : Ky) (E : List Data) (hl : a.u.length ≤ 1048576) : CallIn Tryz.prog 93 [.d (.agg [.int .i64 (a.b), .int .i64 (a.d), .int .i64 a.s, .int .i64 a.e, .int .u8 a.k.a, .int .u8 a.k.b, .int .u8 a.k.c, .int .u8 a.k.d, .int .u8 a.k.e, .int .u8 a.k.f, .int .u8 a.k.g, .int .u8 a.k.h, .int .u8 a.n.a, .int .u8 a.n.b, .int .u8 a.n.c, .int .u8 a.n.d, .int .u8 a.n.e, .int .u8 a.n.f, .int .u8 a.n.g, .int .u8 a.n.h, .bool c, .slice 1 (ints a.u)])] [.cbox [.int .i64 (a.b), .int .i64 (a.d), .int .i64 a.s, .int .i64 a.e, .int .u8 a.k.a, .int .u8 a.k.b, .int .u8 a.k.c, .int .u8 a.k.d, .int .u8 a.k.e, .int .u8 a.k.f, .int .u8 a.k.g, .int .u8 a.k.h, .int .u8 a.n.a, .int .u8 a.n.b, .int .u8 a.n.c, .int .u8 a.n.d, .int .u8 a.n.e, .int .u8 a.n.f, .int .u8 a.n.g, .int .u8 a.n.h, .bool c, .slice 1 (ints a.u)], .cbox [.int .i64 n, .int .i64 m, .int .u8 q.a, .int .u8 q.b, .int .u8 q.c, .int .u8 q.d, .int .u8 q.e, .int .u8 q.f, .int .u8 q.g, .int .u8 q.h], .box [.d (.int .i64 0), .d (.int .i64 0), .d (.int .i64 0), .d (.int .i64 0), .d (.int .u8 0), .d (.int .u8 0), .d (.int .u8 0), .d (.int .u8 0), .d (.int .u8 0), .d (.int .u8 0), .d (.int .u8 0), .d (.int .u8 0), .d (.int .u8 0), .d (.int .u8 0), .d (.int .u8 0), .d (.int .u8 0), .d (.int .u8 0), .d (.int .u8 0), .d (.int .u8 0), .d (.int .u8 0), .d (.bool false), .nils 1], .mapo (KI a.u), .row 30 1 E false, .none, .none, .none, .none, .none, .none] (.agg [.d (.int .i64 (a.b)), .d (.int .i64 (a.d)), .d (.int .i64 a.s), .d (.int .i64 a.e), .d (.int .u8 a.k.a), .d (.int .u8 a.k.b), .d (.int .u8 a.k.c), .d (.int .u8 a.k.d), .d (.int .u8 a.k.e), .d (.int .u8 a.k.f), .d (.int .u8 a.k.g), .d (.int .u8 a.k.h), .d (.int .u8 a.n.a), .d (.int .u8 a.n.b), .d (.int .u8 a.n.c), .d (.int .u8 a.n.d), .d (.int .u8 a.n.e), .d (.int .u8 a.n.f), .d (.int .u8 a.n.g), .d (.int .u8 a.n.h), .d (.bool c), .sl 10 (ints a.u).length])
  (setAll [.cbox [.int .i64 (a.b),.int .i64 (a.d),.int .i64 a.s,.int .i64 a.e,.int .u8 a.k.a,.int .u8 a.k.b,.int .u8 a.k.c,.int .u8 a.k.d,.int .u8 a.k.e,.int .u8 a.k.f,.int .u8 a.k.g,.int .u8 a.k.h,.int .u8 a.n.a,.int .u8 a.n.b,.int .u8 a.n.c,.int .u8 a.n.d,.int .u8 a.n.e,.int .u8 a.n.f,.int .u8 a.n.g,.int .u8 a.n.h,.bool c,.slice 1 (ints a.u)],.cbox [.int .i64 n,.int .i64 m,.int .u8 q.a,.int .u8 q.b,.int .u8 q.c,.int .u8 q.d,.int .u8 q.e,.int .u8 q.f,.int .u8 q.g,.int .u8 q.h],.box [.d (.int .i64 0),.d (.int .i64 0),.d (.int .i64 0),.d (.int .i64 0),.d (.int .u8 0),.d (.int .u8 0),.d (.int .u8 0),.d (.int .u8 0),.d (.int .u8 0),.d (.int .u8 0),.d (.int .u8 0),.d (.int .u8 0),.d (.int .u8 0),.d (.int .u8 0),.d (.int .u8 0),.d (.int .u8 0),.d (.int .u8 0),.d (.int .u8 0),.d (.int .u8 0),.d (.int .u8 0),.d (.bool false),.nils 1],.mapo (KI a.u),.row 30 1 E false,.none,.none,.none,.none,.none,.none] [(8,.box [.d (.int .i64 (a.b)),.d (.int .i64 (a.d)),.d (.int .i64 a.s),.d (.int .i64 a.e),.d (.int .u8 a.k.a),.d (.int .u8 a.k.b),.d (.int .u8 a.k.c),.d (.int .u8 a.k.d),.d (.int .u8 a.k.e),.d (.int .u8 a.k.f),.d (.int .u8 a.k.g),.d (.int .u8 a.k.h),.d (.int .u8 a.n.a),.d (.int .u8 a.n.b),.d (.int .u8 a.n.c),.d (.int .u8 a.n.d),.d (.int .u8 a.n.e),.d (.int .u8 a.n.f),.d (.int .u8 a.n.g),.d (.int .u8 a.n.h),.d (.bool c),.sl 10 (ints a.u).length]),(9,.box [.d (.int .i64 (a.b)),.d (.int .i64 (a.d)),.d (.int .i64 a.s),.d (.int .i64 a.e),.d (.int .u8 a.k.a),.d (.int .u8 a.k.b),.d (.int .u8 a.k.c),.d (.int .u8 a.k.d),.d (.int .u8 a.k.e),.d (.int .u8 a.k.f),.d (.int .u8 a.k.g),.d (.int .u8 a.k.h),.d (.int .u8 a.n.a),.d (.int .u8 a.n.b),.d (.int .u8 a.n.c),.d (.int .u8 a.n.d),.d (.int .u8 a.n.e),.d (.int .u8 a.n.f),.d (.int .u8 a.n.g),.d (.int .u8 a.n.h),.d (.bool c),.sl 10 (ints a.u).length]),(10,.row 3 1 (ints a.u) false)]):=by
 have hlen:(ints a.u).length=a.u.length:=List.length_map _
 have e:=copy_all (ints a.u) (.int .i64 0)
 refine callIn_of_vc 8 (x:=jr93') (by kernel_rfl) rfl rfl rfl ?_
 refine an ?_ ?_
 refine an ?_ ?_
 (show (0:Int)≤(↑(List.length (ints (Ac.u a))):Int); omega)
 refine an ?_ ?_
 (show (↑(List.length (ints (Ac.u a))):Int) * (↑(8:Nat):Int)≤(2:Int) ^ (47:Nat); omega)
 (show (↑(List.length (ints (Ac.u a))):Int)≤(2:Int) ^ (47:Nat); omega)
 refine ca (And.intro rfl (And.intro rfl (And.intro ?_ rfl))) ?_
 focus (show List.length (List.replicate (List.length (ints (Ac.u a))) (Data.int IntKind.i64 (0:Int)))=List.length (ints (Ac.u a)); simp only [List.length_replicate,List.length_set,List.length_append,List.length_take,List.length_drop]; done)
 refine an ?_ ?_
 (show List.length (List.take (List.length (ints (Ac.u a))) (ints (Ac.u a))++List.drop (List.length (ints (Ac.u a))) (List.replicate (List.length (ints (Ac.u a))) (Data.int IntKind.i64 (0:Int))))=List.length (ints (Ac.u a)); simp only [List.length_replicate,List.length_set,List.length_append,List.length_take,List.length_drop]; omega)
 refine sd ?_
 rotate_left
 exact congrArg (fun X=>([.cbox [.int .i64 (a.b),.int .i64 (a.d),.int .i64 a.s,.int .i64 a.e,.int .u8 a.k.a,.int .u8 a.k.b,.int .u8 a.k.c,.int .u8 a.k.d,.int .u8 a.k.e,.int .u8 a.k.f,.int .u8 a.k.g,.int .u8 a.k.h,.int .u8 a.n.a,.int .u8 a.n.b,.int .u8 a.n.c,.int .u8 a.n.d,.int .u8 a.n.e,.int .u8 a.n.f,.int .u8 a.n.g,.int .u8 a.n.h,.bool c,.slice 1 (ints a.u)],.cbox [.int .i64 n,.int .i64 m,.int .u8 q.a,.int .u8 q.b,.int .u8 q.c,.int .u8 q.d,.int .u8 q.e,.int .u8 q.f,.int .u8 q.g,.int .u8 q.h],.box [.d (.int .i64 0),.d (.int .i64 0),.d (.int .i64 0),.d (.int .i64 0),.d (.int .u8 0),.d (.int .u8 0),.d (.int .u8 0),.d (.int .u8 0),.d (.int .u8 0),.d (.int .u8 0),.d (.int .u8 0),.d (.int .u8 0),.d (.int .u8 0),.d (.int .u8 0),.d (.int .u8 0),.d (.int .u8 0),.d (.int .u8 0),.d (.int .u8 0),.d (.int .u8 0),.d (.int .u8 0),.d (.bool false),.nils 1],.mapo (KI a.u),.row 30 1 E false,.none,.none,.none,.box [.d (.int .i64 (a.b)),.d (.int .i64 (a.d)),.d (.int .i64 a.s),.d (.int .i64 a.e),.d (.int .u8 a.k.a),.d (.int .u8 a.k.b),.d (.int .u8 a.k.c),.d (.int .u8 a.k.d),.d (.int .u8 a.k.e),.d (.int .u8 a.k.f),.d (.int .u8 a.k.g),.d (.int .u8 a.k.h),.d (.int .u8 a.n.a),.d (.int .u8 a.n.b),.d (.int .u8 a.n.c),.d (.int .u8 a.n.d),.d (.int .u8 a.n.e),.d (.int .u8 a.n.f),.d (.int .u8 a.n.g),.d (.int .u8 a.n.h),.d (.bool c),.sl 10 (ints a.u).length],.box [.d (.int .i64 (a.b)),.d (.int .i64 (a.d)),.d (.int .i64 a.s),.d (.int .i64 a.e),.d (.int .u8 a.k.a),.d (.int .u8 a.k.b),.d (.int .u8 a.k.c),.d (.int .u8 a.k.d),.d (.int .u8 a.k.e),.d (.int .u8 a.k.f),.d (.int .u8 a.k.g),.d (.int .u8 a.k.h),.d (.int .u8 a.n.a),.d (.int .u8 a.n.b),.d (.int .u8 a.n.c),.d (.int .u8 a.n.d),.d (.int .u8 a.n.e),.d (.int .u8 a.n.f),.d (.int .u8 a.n.g),.d (.int .u8 a.n.h),.d (.bool c),.sl 10 (ints a.u).length],.row 3 1 X false]:List AObj)) e
theorem v100 {a:Ac} {c:Bool} {n m:Int} {q:Ky} {Q:AExit→St→Prop} (ha:Asc a.u) (hl:a.u.length≤1048576) (hQ:∀ x,Q (.exit 0) ⟨[(2,.ptr 0 0),(3,.ptr 1 0),(4,.ptr 2 0),(6,.mp 3),(20,.d (.slice 1 (ints a.u))),(21,.d (.int .i64 (((ints a.u).length:Nat):Int))),(22,.d (.int .i64 (((a.u.length:Nat):Int)))),(23,.d (.bool x))],[.cbox [.int .i64 (a.b),.int .i64 (a.d),.int .i64 a.s,.int .i64 a.e,.int .u8 a.k.a,.int .u8 a.k.b,.int .u8 a.k.c,.int .u8 a.k.d,.int .u8 a.k.e,.int .u8 a.k.f,.int .u8 a.k.g,.int .u8 a.k.h,.int .u8 a.n.a,.int .u8 a.n.b,.int .u8 a.n.c,.int .u8 a.n.d,.int .u8 a.n.e,.int .u8 a.n.f,.int .u8 a.n.g,.int .u8 a.n.h,.bool c,.slice 1 (ints a.u)],.cbox [.int .i64 n,.int .i64 m,.int .u8 q.a,.int .u8 q.b,.int .u8 q.c,.int .u8 q.d,.int .u8 q.e,.int .u8 q.f,.int .u8 q.g,.int .u8 q.h],.box [.d (.int .i64 0),.d (.int .i64 0),.d (.int .i64 0),.d (.int .i64 0),.d (.int .u8 0),.d (.int .u8 0),.d (.int .u8 0),.d (.int .u8 0),.d (.int .u8 0),.d (.int .u8 0),.d (.int .u8 0),.d (.int .u8 0),.d (.int .u8 0),.d (.int .u8 0),.d (.int .u8 0),.d (.int .u8 0),.d (.int .u8 0),.d (.int .u8 0),.d (.int .u8 0),.d (.int .u8 0),.d (.bool false),.nils 1],.mapo (KI a.u),.none,.none,.none,.none,.none,.none,.none]⟩):vc Tryz.prog 87 seg100 ⟨[(2,.ptr 0 0),(3,.ptr 1 0),(4,.ptr 2 0),(6,.mp 3),(20,.d (.slice 1 (ints a.u))),(21,.d (.int .i64 (((ints a.u).length:Nat):Int))),(22,.d (.int .i64 (0)))],[.cbox [.int .i64 (a.b),.int .i64 (a.d),.int .i64 a.s,.int .i64 a.e,.int .u8 a.k.a,.int .u8 a.k.b,.int .u8 a.k.c,.int .u8 a.k.d,.int .u8 a.k.e,.int .u8 a.k.f,.int .u8 a.k.g,.int .u8 a.k.h,.int .u8 a.n.a,.int .u8 a.n.b,.int .u8 a.n.c,.int .u8 a.n.d,.int .u8 a.n.e,.int .u8 a.n.f,.int .u8 a.n.g,.int .u8 a.n.h,.bool c,.slice 1 (ints a.u)],.cbox [.int .i64 n,.int .i64 m,.int .u8 q.a,.int .u8 q.b,.int .u8 q.c,.int .u8 q.d,.int .u8 q.e,.int .u8 q.f,.int .u8 q.g,.int .u8 q.h],.box [.d (.int .i64 0),.d (.int .i64 0),.d (.int .i64 0),.d (.int .i64 0),.d (.int .u8 0),.d (.int .u8 0),.d (.int .u8 0),.d (.int .u8 0),.d (.int .u8 0),.d (.int .u8 0),.d (.int .u8 0),.d (.int .u8 0),.d (.int .u8 0),.d (.int .u8 0),.d (.int .u8 0),.d (.int .u8 0),.d (.int .u8 0),.d (.int .u8 0),.d (.int .u8 0),.d (.int .u8 0),.d (.bool false),.nils 1],.mapo ([]),.none,.none,.none,.none,.none,.none,.none]⟩ Q:=by
 have hlen:(ints a.u).length=a.u.length:=List.length_map _
 unfold seg100
 refine loop_st (fun k:Nat=>⟨[(2,.ptr 0 0),(3,.ptr 1 0),(4,.ptr 2 0),(6,.mp 3),(20,.d (.slice 1 (ints a.u))),(21,.d (.int .i64 (((ints a.u).length:Nat):Int))),(22,.d (.int .i64 ((k:Nat))))],[.cbox [.int .i64 (a.b),.int .i64 (a.d),.int .i64 a.s,.int .i64 a.e,.int .u8 a.k.a,.int .u8 a.k.b,.int .u8 a.k.c,.int .u8 a.k.d,.int .u8 a.k.e,.int .u8 a.k.f,.int .u8 a.k.g,.int .u8 a.k.h,.int .u8 a.n.a,.int .u8 a.n.b,.int .u8 a.n.c,.int .u8 a.n.d,.int .u8 a.n.e,.int .u8 a.n.f,.int .u8 a.n.g,.int .u8 a.n.h,.bool c,.slice 1 (ints a.u)],.cbox [.int .i64 n,.int .i64 m,.int .u8 q.a,.int .u8 q.b,.int .u8 q.c,.int .u8 q.d,.int .u8 q.e,.int .u8 q.f,.int .u8 q.g,.int .u8 q.h],.box [.d (.int .i64 0),.d (.int .i64 0),.d (.int .i64 0),.d (.int .i64 0),.d (.int .u8 0),.d (.int .u8 0),.d (.int .u8 0),.d (.int .u8 0),.d (.int .u8 0),.d (.int .u8 0),.d (.int .u8 0),.d (.int .u8 0),.d (.int .u8 0),.d (.int .u8 0),.d (.int .u8 0),.d (.int .u8 0),.d (.int .u8 0),.d (.int .u8 0),.d (.int .u8 0),.d (.int .u8 0),.d (.bool false),.nils 1],.mapo (KI (a.u.take k)),.none,.none,.none,.none,.none,.none,.none]⟩) (fun k=>k≤a.u.length) (fun k=>a.u.length - k) 0 rfl (Nat.zero_le _) ?_
 intro k hk
 have hk:k≤a.u.length:=hk
 by_cases hkn:k < a.u.length
 ·refine Exists.elim (get_lt a.u hkn) fun x hx=>?_
  have hx1:=ints_at hx
  have hky:=KI_keys (a.u.take k)
  have hp:=KI_put x (a.u.take k) (asc_new ha hx)
  have fin:∃ a':Nat,(a'≤a.u.length∧a.u.length - a' < a.u.length - k)∧(⟨[(2,.ptr 0 0),(3,.ptr 1 0),(4,.ptr 2 0),(6,.mp 3),(20,.d (.slice 1 (ints a.u))),(21,.d (.int .i64 (((ints a.u).length:Nat):Int))),(22,.d (.int .i64 ((k:Int)+1)))],[.cbox [.int .i64 (a.b),.int .i64 (a.d),.int .i64 a.s,.int .i64 a.e,.int .u8 a.k.a,.int .u8 a.k.b,.int .u8 a.k.c,.int .u8 a.k.d,.int .u8 a.k.e,.int .u8 a.k.f,.int .u8 a.k.g,.int .u8 a.k.h,.int .u8 a.n.a,.int .u8 a.n.b,.int .u8 a.n.c,.int .u8 a.n.d,.int .u8 a.n.e,.int .u8 a.n.f,.int .u8 a.n.g,.int .u8 a.n.h,.bool c,.slice 1 (ints a.u)],.cbox [.int .i64 n,.int .i64 m,.int .u8 q.a,.int .u8 q.b,.int .u8 q.c,.int .u8 q.d,.int .u8 q.e,.int .u8 q.f,.int .u8 q.g,.int .u8 q.h],.box [.d (.int .i64 0),.d (.int .i64 0),.d (.int .i64 0),.d (.int .i64 0),.d (.int .u8 0),.d (.int .u8 0),.d (.int .u8 0),.d (.int .u8 0),.d (.int .u8 0),.d (.int .u8 0),.d (.int .u8 0),.d (.int .u8 0),.d (.int .u8 0),.d (.int .u8 0),.d (.int .u8 0),.d (.int .u8 0),.d (.int .u8 0),.d (.int .u8 0),.d (.int .u8 0),.d (.int .u8 0),.d (.bool false),.nils 1],.mapo (putM (.int .i64 x) (.bool true) (KI (a.u.take k))),.none,.none,.none,.none,.none,.none,.none]⟩:St)=⟨[(2,.ptr 0 0),(3,.ptr 1 0),(4,.ptr 2 0),(6,.mp 3),(20,.d (.slice 1 (ints a.u))),(21,.d (.int .i64 (((ints a.u).length:Nat):Int))),(22,.d (.int .i64 ((a':Nat))))],[.cbox [.int .i64 (a.b),.int .i64 (a.d),.int .i64 a.s,.int .i64 a.e,.int .u8 a.k.a,.int .u8 a.k.b,.int .u8 a.k.c,.int .u8 a.k.d,.int .u8 a.k.e,.int .u8 a.k.f,.int .u8 a.k.g,.int .u8 a.k.h,.int .u8 a.n.a,.int .u8 a.n.b,.int .u8 a.n.c,.int .u8 a.n.d,.int .u8 a.n.e,.int .u8 a.n.f,.int .u8 a.n.g,.int .u8 a.n.h,.bool c,.slice 1 (ints a.u)],.cbox [.int .i64 n,.int .i64 m,.int .u8 q.a,.int .u8 q.b,.int .u8 q.c,.int .u8 q.d,.int .u8 q.e,.int .u8 q.f,.int .u8 q.g,.int .u8 q.h],.box [.d (.int .i64 0),.d (.int .i64 0),.d (.int .i64 0),.d (.int .i64 0),.d (.int .u8 0),.d (.int .u8 0),.d (.int .u8 0),.d (.int .u8 0),.d (.int .u8 0),.d (.int .u8 0),.d (.int .u8 0),.d (.int .u8 0),.d (.int .u8 0),.d (.int .u8 0),.d (.int .u8 0),.d (.int .u8 0),.d (.int .u8 0),.d (.int .u8 0),.d (.int .u8 0),.d (.int .u8 0),.d (.bool false),.nils 1],.mapo (KI (a.u.take a')),.none,.none,.none,.none,.none,.none,.none]⟩:=⟨k+1,⟨by omega,by omega⟩,by rw [hp,take_one hx]; rfl⟩
  refine sd ?_
  refine b_lt (fun t1=>?_) (fun t1=>?_)
  refine ix_at hx1 ?_ ?_
  (show (0:Int)≤(↑k:Int); omega)
  refine an ?_ ?_
  refine an ?_ ?_
  exact rfl
  assumption
  refine ar_add ?_ ?_
  refine an ?_ ?_
  (show (-9223372036854775808:Int)≤(↑k:Int)+(1:Int); omega)
  (show (↑k:Int)+(1:Int)≤(9223372036854775807:Int); omega)
  rotate_left
  (exfalso; omega)
  all_goals exact fin
 ·have e:k=a.u.length:=by omega
  have e2:a.u.take k=a.u:=List.take_of_length_le (by omega)
  rw [e2]
  subst e
  refine sd ?_
  refine b_lt (fun t1=>?_) (fun t1=>?_)
  (exfalso; omega)
  rotate_left
  all_goals exact hQ _
def crR (a:Ac) (n m:Int):Int:=firstOf [bif a.u.contains n then 9 else 0,bif ((((ints a.u).length:Nat):Int)==256) then 5 else 0,bif decide (1000000000000 - (m - pay a m) < a.b) then 4 else 0]
def crE (a:Ac) (c:Bool) (n m:Int) (q:Ky):Int:=bif !(va a c n m q) then 27 else crR a n m
theorem c100 (a:Ac) (c:Bool) (n m:Int) (q:Ky) (hk:a.k.ok) (hn:a.n.ok) (hA:ckA a c=0) (ht:ckT n m=0):CallDet Tryz.prog 100 [.d (.agg [.int .i64 (a.b),.int .i64 (a.d),.int .i64 a.s,.int .i64 a.e,.int .u8 a.k.a,.int .u8 a.k.b,.int .u8 a.k.c,.int .u8 a.k.d,.int .u8 a.k.e,.int .u8 a.k.f,.int .u8 a.k.g,.int .u8 a.k.h,.int .u8 a.n.a,.int .u8 a.n.b,.int .u8 a.n.c,.int .u8 a.n.d,.int .u8 a.n.e,.int .u8 a.n.f,.int .u8 a.n.g,.int .u8 a.n.h,.bool c,.slice 1 (ints a.u)]),.d (.agg [.int .i64 n,.int .i64 m,.int .u8 q.a,.int .u8 q.b,.int .u8 q.c,.int .u8 q.d,.int .u8 q.e,.int .u8 q.f,.int .u8 q.g,.int .u8 q.h])] (bif crE a c n m q != 0 then [.agg [.int .i64 (a.b),.int .i64 (a.d),.int .i64 a.s,.int .i64 a.e,.int .u8 a.k.a,.int .u8 a.k.b,.int .u8 a.k.c,.int .u8 a.k.d,.int .u8 a.k.e,.int .u8 a.k.f,.int .u8 a.k.g,.int .u8 a.k.h,.int .u8 a.n.a,.int .u8 a.n.b,.int .u8 a.n.c,.int .u8 a.n.d,.int .u8 a.n.e,.int .u8 a.n.f,.int .u8 a.n.g,.int .u8 a.n.h,.bool c,.slice 1 (ints a.u)],.int .i64 (crE a c n m q)] else [.agg [.int .i64 (a.b+(m - pay a m)),.int .i64 (a.d - pay a m),.int .i64 a.s,.int .i64 a.e,.int .u8 a.k.a,.int .u8 a.k.b,.int .u8 a.k.c,.int .u8 a.k.d,.int .u8 a.k.e,.int .u8 a.k.f,.int .u8 a.k.g,.int .u8 a.k.h,.int .u8 a.n.a,.int .u8 a.n.b,.int .u8 a.n.c,.int .u8 a.n.d,.int .u8 a.n.e,.int .u8 a.n.f,.int .u8 a.n.g,.int .u8 a.n.h,.bool c,.slice 1 (ints (insI n a.u))],.int .i64 0]):=by
 obtain ⟨t1,t2⟩:=ckT_b ht
 have hlA:=ckA_len hA
 obtain ⟨hasc,_⟩:=ckA_asc hA
 have hb:=(ckA_b hA).1
 obtain ⟨hd,hs0,hs1⟩:=ckA_ds hA
 obtain ⟨hp0,hp1,hp2,hp3,_⟩:=pay_b hA t2.1 t2.2
 have hlen:(ints a.u).length=a.u.length:=List.length_map _
 have c140_:=c140 a c n m q hk hn ht
 have c93_:=c93 a c (by omega)
 have c90_:CallDet Tryz.prog 90 [.d (.slice 1 [.int .i64 (bif a.u.contains n then 9 else 0),.int .i64 (bif ((((ints a.u).length:Nat):Int)==256) then 5 else 0),.int .i64 (bif decide (1000000000000 - (m - pay a m) < a.b) then 4 else 0)])] [.int .i64 (crR a n m)]:=c90 [bif a.u.contains n then 9 else 0,bif ((((ints a.u).length:Nat):Int)==256) then 5 else 0,bif decide (1000000000000 - (m - pay a m) < a.b) then 4 else 0] (by simp)
 have hky:=KI_keys a.u
 have hlk:=KI_lk n a.u
 unfold crE
 cases hv:va a c n m q with
 | false =>
  rw [hv] at c140_
  refine call_of_vc (x:=jr100) (by kernel_rfl) rfl ?_
  refine ca c140_ ?_
  exact rfl
 | true =>
  rw [hv] at c140_
  show CallDet Tryz.prog 100 _ (bif crR a n m != 0 then _ else _)
  by_cases h:crR a n m=0
  ·have hnu : n ∉ a.u := by
    have h2:=firstOf_zero h (bif a.u.contains n then 9 else 0) (by simp)
    intro hm
    rw [List.contains_iff_mem.2 hm] at h2; cases h2
   have hg:a.b+(m - pay a m)≤1000000000000:=by
    have h2:=firstOf_zero h (bif decide (1000000000000 - (m - pay a m) < a.b) then 4 else 0) (by simp)
    by_cases e:1000000000000 - (m - pay a m) < a.b
    ·rw [decide_eq_true e] at h2; cases h2
    ·omega
   rw [h] at c90_ ⊢
   unfold pay at *
   refine call_of_vc (x:=jr100) (by kernel_rfl) rfl ?_
   refine ca c140_ ?_
   rotate_left
   refine v100 hasc (by omega) (fun x=>?_)
   refine ar_mul ?_ ?_
   refine an ?_ ?_
   (show (-9223372036854775808:Int)≤m * Ac.s a; omega)
   (show m * Ac.s a≤(9223372036854775807:Int); omega)
   refine ar_quo ?_ ?_
   refine an ?_ ?_
   (show (0:Int)≤m * Ac.s a; omega)
   refine an ?_ ?_
   (show m * Ac.s a≤(9223372036854775807:Int); omega)
   (show (1:Int)≤(100:Int); omega)
   refine sd ?_
   refine ar_sub ?_ ?_
   refine an ?_ ?_
   (show (-9223372036854775808:Int)≤m - min (Ac.d a) (m * Ac.s a / (100:Int)); omega)
   (show m - min (Ac.d a) (m * Ac.s a / (100:Int))≤(9223372036854775807:Int); omega)
   rotate_left
   refine Exists.intro [Data.bool (a.u.contains n),Data.bool (a.u.contains n)] (And.intro ⟨rfl,hky,hlk⟩ ?_)
   refine ca (c92 _ _) ?_
   refine sd ?_
   refine ca (c92 _ _) ?_
   refine ar_sub ?_ ?_
   refine an ?_ ?_
   (show (-9223372036854775808:Int)≤(1000000000000:Int) - (m - min (Ac.d a) (m * Ac.s a / (100:Int))); omega)
   (show (1000000000000:Int) - (m - min (Ac.d a) (m * Ac.s a / (100:Int)))≤(9223372036854775807:Int); omega)
   refine sd ?_
   refine ca (c92 _ _) ?_
   refine sd ?_
   refine sd ?_
   refine ca c90_ ?_
   refine sd ?_
   rotate_left
   refine Exists.intro _ (Exists.intro _ (And.intro (i93 a c n m q _ (by omega)) ?_))
   refine ar_sub ?_ ?_
   refine an ?_ ?_
   (show (-9223372036854775808:Int)≤Ac.d a - min (Ac.d a) (m * Ac.s a / (100:Int)); omega)
   (show Ac.d a - min (Ac.d a) (m * Ac.s a / (100:Int))≤(9223372036854775807:Int); omega)
   refine ar_add ?_ ?_
   refine an ?_ ?_
   (show (-9223372036854775808:Int)≤Ac.b a+(m - min (Ac.d a) (m * Ac.s a / (100:Int))); omega)
   (show Ac.b a+(m - min (Ac.d a) (m * Ac.s a / (100:Int)))≤(9223372036854775807:Int); omega)
   refine sd ?_
   refine sd ?_
   refine sd ?_
   refine an ?_ ?_
   refine an ?_ ?_
   exact rfl
   refine an ?_ ?_
   exact rfl
   refine an ?_ ?_
   exact rfl
   refine an ?_ ?_
   (show (List.length (ints (Ac.u a))+(1:Nat)) * (8:Nat)≤(2:Nat) ^ (47:Nat); omega)
   (show List.length (ints (Ac.u a))+(1:Nat)≤(2:Nat) ^ (47:Nat); omega)
   refine sd ?_
   rotate_left
   refine Exists.intro (.tup []) (Exists.intro [(10,.row 3 1 (ints (insI n a.u)) false)] (And.intro (sort_x rfl (by rw [List.length_append,hlen]; rfl) (by omega) hasc hnu) ?_))
   have hil:(ints (insI n a.u)).length=(ints a.u++[Data.int .i64 n]).length:=by rw [List.length_append,hlen]; unfold ints; rw [List.length_map,insI_len]; rfl
   refine an ?_ ?_
   assumption
   exact rfl
  ·rw [bne_t h]
   unfold pay at *
   refine call_of_vc (x:=jr100) (by kernel_rfl) rfl ?_
   refine ca c140_ ?_
   rotate_left
   refine v100 hasc (by omega) (fun x=>?_)
   refine ar_mul ?_ ?_
   refine an ?_ ?_
   (show (-9223372036854775808:Int)≤m * Ac.s a; omega)
   (show m * Ac.s a≤(9223372036854775807:Int); omega)
   refine ar_quo ?_ ?_
   refine an ?_ ?_
   (show (0:Int)≤m * Ac.s a; omega)
   refine an ?_ ?_
   (show m * Ac.s a≤(9223372036854775807:Int); omega)
   (show (1:Int)≤(100:Int); omega)
   refine sd ?_
   refine ar_sub ?_ ?_
   refine an ?_ ?_
   (show (-9223372036854775808:Int)≤m - min (Ac.d a) (m * Ac.s a / (100:Int)); omega)
   (show m - min (Ac.d a) (m * Ac.s a / (100:Int))≤(9223372036854775807:Int); omega)
   rotate_left
   refine Exists.intro [Data.bool (a.u.contains n),Data.bool (a.u.contains n)] (And.intro ⟨rfl,hky,hlk⟩ ?_)
   refine ca (c92 _ _) ?_
   refine sd ?_
   refine ca (c92 _ _) ?_
   refine ar_sub ?_ ?_
   refine an ?_ ?_
   (show (-9223372036854775808:Int)≤(1000000000000:Int) - (m - min (Ac.d a) (m * Ac.s a / (100:Int))); omega)
   (show (1000000000000:Int) - (m - min (Ac.d a) (m * Ac.s a / (100:Int)))≤(9223372036854775807:Int); omega)
   refine sd ?_
   refine ca (c92 _ _) ?_
   refine sd ?_
   refine sd ?_
   refine ca c90_ ?_
   refine sd ?_
   refine b_ne (fun t3=>?_) (fun t3=>?_)
   exact rfl
   (exfalso; omega)
end Vc
