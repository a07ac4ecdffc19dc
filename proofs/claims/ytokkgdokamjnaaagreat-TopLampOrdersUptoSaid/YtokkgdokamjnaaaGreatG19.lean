import Derived.Test.YtokkgdokamjnaaaGreatG17
import Derived.Test.YtokkgdokamjnaaaGreatG18
set_option linter.unusedSectionVars false
set_option linter.unusedVariables false
set_option linter.unusedSimpArgs false
set_option maxRecDepth 10000
set_option maxHeartbeats 4000000
namespace Vc.L
open Go Go.Proofs
structure Br where
 w:Nm
 e:Int
 f:Nat
def brd (b:Br):Data:=.agg [.str b.w,.int .i64 b.e,.fn (.func b.f) []]
def brs (l:List Br):List Data:=l.map brd
theorem brs_len (l:List Br):(brs l).length=l.length:=List.length_map _
theorem brs_at {l:List Br} {k:Nat} {b:Br} (h:l[k]?=some b):(brs l)[((k:Int)).toNat]?=some (.agg [.str b.w,.int .i64 b.e,.fn (.func b.f) []]):=by
 show (l.map _)[k]?=_
 rw [List.getElem?_map,h]; rfl
def nf (t f:Int):List Od→Int→Int
 | [],n=>n
 | o::r,n=>nf t f r (bif decide (t - o.t≤f) then n+1 else n)
def few (s:Sw) (t f:Int):Bool:=decide (nf t f s.os 0 < 2)
def w0 (b:Bool):List Br:=bif b then [⟨[111,102,102],22,99⟩] else []
def w1 (b:Bool):List Br:=bif b then [⟨[112,114,111,116,101,99,116,101,100],31,100⟩] else []
def w2 (b:Bool):List Br:=bif b then [⟨[111,102,102,105,99,101,115],30,101⟩] else []
def bars (s:Sw) (l:List Hr) (t f:Int):List Br:=w0 (!s.on)++w1 (prL l t)++w2 (few s t f)
theorem w_len:(∀ b,(w0 b).length≤1)∧(∀ b,(w1 b).length≤1)∧∀ b,(w2 b).length≤1:=⟨fun b=>by cases b <;> decide,fun b=>by cases b <;> decide,fun b=>by cases b <;> decide⟩
theorem odE_t {o:Od} {K:List Nm} {last:Int} (h:odE o K last=0):0≤o.t∧o.t≤100000000:=within_ok (firstOf_zero h (within3 o.t 0 100000000) (by simp))
theorem odsE_t:∀ {l:List Od} {K:List Nm} {last:Int},odsE l K last=0→∀ o∈l,0≤o.t∧o.t≤100000000
 | [],_,_,_,_,h=>by cases h
 | x::r,K,last,e,o,h=>by
  rw [odsE] at e
  by_cases hx:odE x K last=0
  ·rw [hx] at e
   rcases List.mem_cons.1 h with rfl | h
   ·exact odE_t hx
   ·exact odsE_t (l:=r) e o h
  ·rw [bne_t hx] at e; exact absurd e hx
theorem ckS_t {s:Sw} (h:ckS s=0):∀ o∈s.os,0≤o.t∧o.t≤100000000:=by
 have h2:=ckS_0 (ckS_00 h)
 rw [h] at h2
 exact odsE_t h2.symm
def apE (s:Sw) (l:List Hr) (t f:Int):Int:=firstOf [ckS s,ckH l,within3 t 0 100000000,within3 f 0 1000000,bif decide (t < lst s) then 11 else 0]
theorem apE_0 {s:Sw} {l:List Hr} {t f:Int} (h:apE s l t f=0):ckS s=0∧ckH l=0∧(0≤t∧t≤100000000)∧(0≤f∧f≤1000000)∧¬ t < lst s:=by
 refine ⟨firstOf_zero h (ckS s) (by simp),firstOf_zero h (ckH l) (by simp),within_ok (firstOf_zero h (within3 t 0 100000000) (by simp)),within_ok (firstOf_zero h (within3 f 0 1000000) (by simp)),fun e=>?_⟩
 have h2:=firstOf_zero h (bif decide (t < lst s) then 11 else 0) (by simp)
 rw [decide_eq_true e] at h2; cases h2
def jr165:AFun:=⟨7,1,[.tmp 2],
 (.seq
 (.reg [0] [⟨some 1,.cbx 0 6 (.tmp 0),none⟩,
  ⟨some 2,.mov (.cst (.d (.bool false))),none⟩])
 (.seq
  (.reg [] [⟨some 3,.fad 0 (.tmp 1),none⟩,
   ⟨some 4,.fad 0 (.tmp 3),none⟩,
   ⟨some 5,.ld false 1 (.tmp 4),none⟩,
   ⟨some 6,.not (.tmp 5),none⟩,
   ⟨some 2,.mov (.tmp 6),none⟩])
  .ret))⟩
def jr166:AFun:=⟨14,1,[.tmp 2],
 (.seq
 (.reg [0] [⟨some 1,.cbx 0 6 (.tmp 0),none⟩,
  ⟨some 2,.mov (.cst (.d (.bool false))),none⟩])
 (.seq
  (.reg [] [⟨some 6,.fad 3 (.tmp 1),none⟩,
   ⟨some 7,.ld false 1 (.tmp 6),none⟩,
   ⟨some 8,.fad 4 (.tmp 1),none⟩,
   ⟨some 9,.ld false 1 (.tmp 8),none⟩,
   ⟨some 10,.call 41 [(.tmp 7),(.tmp 9)],none⟩,
   ⟨some 5,.mov (.tmp 10),none⟩,
   ⟨some 11,.ext 0 (.tmp 5),none⟩,
   ⟨some 12,.ext 1 (.tmp 5),none⟩,
   ⟨some 3,.mov (.tmp 11),none⟩,
   ⟨some 4,.mov (.tmp 12),none⟩])
  (.seq
  (.reg [] [⟨some 13,.mov (.tmp 4),none⟩,
   ⟨some 2,.mov (.tmp 13),none⟩])
  .ret)))⟩
def jr167:AFun:=⟨24,2,[.tmp 2],
 (.seq
 (.reg [0] [⟨some 1,.cbx 0 6 (.tmp 0),none⟩,
  ⟨some 2,.mov (.cst (.d (.bool false))),none⟩])
 (.seq
  (.reg [] [⟨some 3,.mov (.cst (.d (.fn (.func 106) []))),none⟩])
  (.seq
  (.reg [] [⟨some 4,.mov (.cst (.d (.int .i64 0))),none⟩])
  (.seq
   (.seq
   (.reg [] [⟨some 7,.fad 0 (.tmp 1),none⟩,
    ⟨some 8,.fad 2 (.tmp 7),none⟩,
    ⟨some 9,.ld false 1 (.tmp 8),none⟩,
    ⟨some 10,.len (.tmp 9),none⟩,
    ⟨some 11,.mov (.cst (.d (.int .i64 0))),none⟩])
   (.post [4] [0,1]
    (.block 0
    (.keep [1,3,4,9,10,11] [0]
     (.loop
     (.post [1,3,4,9,10,11] [1]
      (.seq
      (.reg [] [⟨some 12,.cmp .lss (.tmp 11) (.tmp 10),none⟩])
      (.seq
       (.cond (.tmp 12)
       .skip
       (.exit 0))
       (.seq
       (.block 1
        (.seq
        (.reg [1] [⟨some 13,.ixa 2 (.tmp 9) (.tmp 11),none⟩,
         ⟨some 14,.ld true 2 (.tmp 13),none⟩,
         ⟨some 6,.alloc 1 [(.d (.str [])),(.d (.int .i64 0))],none⟩,
         ⟨none,.st 2 (.tmp 6) (.tmp 14),none⟩])
        (.seq
         (.reg [] [⟨some 15,.mov (.tmp 3),none⟩,
          ⟨some 16,.ld true 2 (.tmp 6),none⟩,
          ⟨some 17,.ld true 6 (.tmp 1),none⟩,
          ⟨some 18,.callv (.tmp 15) [(.tmp 16),(.tmp 17)],none⟩])
         (.cond (.tmp 18)
         (.reg [] [⟨some 19,.mov (.tmp 4),none⟩,
          ⟨some 20,.arith .add .i64 (.tmp 19) (.cst (.d (.int .i64 1))),none⟩,
          ⟨some 4,.mov (.tmp 20),none⟩])
         .skip))))
       (.reg [] [⟨some 21,.arith .add .i64 (.tmp 11) (.cst (.d (.int .i64 1))),none⟩,
        ⟨some 11,.mov (.tmp 21),none⟩]))))))))))
   (.seq
   (.reg [] [⟨some 22,.mov (.tmp 4),none⟩,
    ⟨some 23,.cmp .lss (.tmp 22) (.cst (.d (.int .i64 2))),none⟩,
    ⟨some 2,.mov (.tmp 23),none⟩])
   .ret)))))⟩
def jr188:AFun:=⟨13,2,[.tmp 4],
 (.seq
 (.reg [0,1] [⟨some 2,.cbx 0 2 (.tmp 0),none⟩,
  ⟨some 3,.cbx 1 6 (.tmp 1),none⟩,
  ⟨some 4,.mov (.cst (.d (.bool false))),none⟩])
 (.seq
  (.reg [] [⟨some 5,.fad 4 (.tmp 3),none⟩,
   ⟨some 6,.ld false 1 (.tmp 5),none⟩,
   ⟨some 7,.fad 1 (.tmp 2),none⟩,
   ⟨some 8,.ld false 1 (.tmp 7),none⟩,
   ⟨some 9,.arith .sub .i64 (.tmp 6) (.tmp 8),none⟩,
   ⟨some 10,.fad 5 (.tmp 3),none⟩,
   ⟨some 11,.ld false 1 (.tmp 10),none⟩,
   ⟨some 12,.cmp .leq (.tmp 9) (.tmp 11),none⟩,
   ⟨some 4,.mov (.tmp 12),none⟩])
  .ret))⟩
def jr146:AFun:=⟨5,1,[.cell 0 9 true],
 (.seq
 (.reg [0] [⟨some 0,.alloc 0 [(.d (.str [])),(.d (.int .i64 0)),.undef,(.d (.str [])),(.d (.int .i64 0)),.undef,(.d (.str [])),(.d (.int .i64 0)),.undef],none⟩])
 (.seq
  (.reg [] [⟨some 1,.build [(.d (.str [])),(.d (.int .i64 0)),.undef] [(0,1,(.cst (.d (.str [111,102,102])))),(1,1,(.cst (.d (.int .i64 22)))),(2,1,(.cst (.d (.fn (.func 99) []))))],none⟩,
   ⟨some 2,.build [(.d (.str [])),(.d (.int .i64 0)),.undef] [(0,1,(.cst (.d (.str [112,114,111,116,101,99,116,101,100])))),(1,1,(.cst (.d (.int .i64 31)))),(2,1,(.cst (.d (.fn (.func 100) []))))],none⟩,
   ⟨some 3,.build [(.d (.str [])),(.d (.int .i64 0)),.undef] [(0,1,(.cst (.d (.str [111,102,102,105,99,101,115])))),(1,1,(.cst (.d (.int .i64 30)))),(2,1,(.cst (.d (.fn (.func 101) []))))],none⟩,
   ⟨some 4,.build [(.d (.str [])),(.d (.int .i64 0)),.undef,(.d (.str [])),(.d (.int .i64 0)),.undef,(.d (.str [])),(.d (.int .i64 0)),.undef] [(0,3,(.tmp 1)),(3,3,(.tmp 2)),(6,3,(.tmp 3))],none⟩,
   ⟨none,.st 9 (.tmp 0) (.tmp 4),none⟩])
  .ret))⟩
def jr118:AFun:=⟨46,5,[.tmp 2,.tmp 3],
 (.seq
 (.reg [0] [⟨some 1,.cbx 0 6 (.tmp 0),none⟩,
  ⟨some 2,.mov (.cst (.nils 3)),none⟩,
  ⟨some 3,.mov (.cst (.d (.int .i64 0))),none⟩])
 (.seq
  (.seq
  (.regd [1] [⟨some 8,.fad 0 (.tmp 1),none⟩,
   ⟨some 9,.ld true 3 (.tmp 8),none⟩,
   ⟨some 10,.call 34 [(.tmp 9)],none⟩,
   ⟨some 11,.fad 3 (.tmp 1),none⟩,
   ⟨some 12,.ld false 1 (.tmp 11),none⟩,
   ⟨some 13,.call 40 [(.tmp 12)],none⟩,
   ⟨some 14,.fad 4 (.tmp 1),none⟩,
   ⟨some 15,.ld false 1 (.tmp 14),none⟩,
   ⟨some 16,.call 36 [(.tmp 15)],none⟩,
   ⟨some 17,.fad 5 (.tmp 1),none⟩,
   ⟨some 18,.ld false 1 (.tmp 17),none⟩,
   ⟨some 19,.call 73 [(.tmp 18),(.cst (.d (.int .i64 0))),(.cst (.d (.int .i64 1000000)))],none⟩,
   ⟨some 20,.fad 4 (.tmp 1),none⟩,
   ⟨some 21,.ld false 1 (.tmp 20),none⟩,
   ⟨some 22,.fad 0 (.tmp 1),none⟩,
   ⟨some 23,.ld true 3 (.tmp 22),none⟩,
   ⟨some 24,.call 38 [(.tmp 23)],none⟩,
   ⟨some 25,.cmp .lss (.tmp 21) (.tmp 24),none⟩,
   ⟨some 26,.call 37 [(.tmp 25),(.cst (.d (.int .i64 11)))],none⟩,
   ⟨some 27,.bsl 1 43 1 5 [(.int .i64 0),(.int .i64 0),(.int .i64 0),(.int .i64 0),(.int .i64 0)] [(0,(.tmp 10)),(1,(.tmp 13)),(2,(.tmp 16)),(3,(.tmp 19)),(4,(.tmp 26))],none⟩,
   ⟨some 28,.call 33 [(.tmp 27)],none⟩,
   ⟨some 4,.mov (.tmp 28),none⟩] [(0,3),(1,3),(2,3),(0,4),(1,4),(2,4),(0,6),(1,6),(2,6),(3,6),(4,6),(5,6),(0,7),(1,7),(2,7),(3,7),(4,7),(5,7),(0,9),(1,9),(2,9),(3,9),(4,9),(5,9),(6,9),(7,9),(8,9),(0,10),(1,10),(2,10),(3,10),(4,10),(5,10),(6,10),(7,10),(8,10),(0,12),(1,12),(2,12),(3,12),(4,12),(5,12),(6,12),(7,12),(8,12),(9,12),(10,12),(11,12),(0,13),(1,13),(2,13),(3,13),(4,13),(5,13),(6,13),(7,13),(8,13),(9,13),(10,13),(11,13),(0,14),(1,14),(2,14),(3,14),(4,14),(5,14),(6,14),(7,14),(8,14),(9,14),(10,14),(11,14),(12,14),(13,14),(0,15),(1,15),(2,15),(3,15),(4,15),(5,15),(6,15),(7,15),(8,15),(9,15),(10,15),(11,15),(12,15),(13,15),(12,16),(13,16)])
  (.seq
   (.reg [] [⟨some 29,.mov (.tmp 4),none⟩,
    ⟨some 30,.cmp .neq (.tmp 29) (.cst (.d (.int .i64 0))),none⟩])
   (.cond (.tmp 30)
   (.seq
    (.reg [] [⟨some 31,.mov (.tmp 4),none⟩,
     ⟨some 2,.mov (.cst (.nils 3)),none⟩,
     ⟨some 3,.mov (.tmp 31),none⟩])
    .ret)
   .skip)))
  (.seq
  (.reg [] [⟨some 5,.mov (.cst (.nils 3)),none⟩])
  (.seq
   (.seq
   (.reg [] [⟨some 32,.call 78 [],none⟩,
    ⟨some 33,.mov (.cst (.d (.int .i64 0))),none⟩])
   (.post [5] [0,1,2,3,4]
    (.block 0
    (.asrow 4 126 3 5
     (.keep [1,5,32,33] [0,1]
     (.loop
      (.post [1,5,32,33] [2,3,4]
      (.seq
       (.reg [] [⟨some 34,.cmp .lss (.tmp 33) (.cst (.d (.int .i64 3))),none⟩])
       (.seq
       (.cond (.tmp 34)
        .skip
        (.exit 0))
       (.seq
        (.block 1
        (.seq
         (.reg [2] [⟨some 35,.ixv true 3 3 (.tmp 32) (.tmp 33),none⟩,
          ⟨some 7,.alloc 2 [(.d (.str [])),(.d (.int .i64 0)),.undef],none⟩,
          ⟨none,.st 3 (.tmp 7) (.tmp 35),none⟩])
         (.seq
         (.reg [] [⟨some 36,.fad 2 (.tmp 7),none⟩,
          ⟨some 37,.ld false 1 (.tmp 36),none⟩,
          ⟨some 38,.ld true 6 (.tmp 1),none⟩,
          ⟨some 39,.callv (.tmp 37) [(.tmp 38)],none⟩])
         (.cond (.tmp 39)
          (.reg [3,4] [⟨some 40,.mov (.tmp 5),none⟩,
           ⟨some 41,.ld true 3 (.tmp 7),none⟩,
           ⟨some 42,.bsl 3 126 3 1 [(.int .i64 0)] [(0,(.tmp 41))],none⟩,
           ⟨some 43,.app 4 126 3 32 (.tmp 40) (.tmp 42),none⟩,
           ⟨some 5,.mov (.tmp 43),none⟩])
          .skip))))
        (.reg [] [⟨some 44,.arith .add .i64 (.tmp 33) (.cst (.d (.int .i64 1))),none⟩,
         ⟨some 33,.mov (.tmp 44),none⟩])))))))))))
   (.seq
   (.reg [] [⟨some 45,.mov (.tmp 5),none⟩,
    ⟨some 2,.mov (.tmp 45),none⟩,
    ⟨some 3,.mov (.cst (.d (.int .i64 0))),none⟩])
   .ret)))))⟩
def jr119:AFun:=⟨22,3,[.tmp 4],
 (.seq
 (.reg [] [⟨some 4,.mov (.cst (.nils 1)),none⟩])
 (.seq
  (.reg [] [⟨some 5,.mov (.cst (.nils 1)),none⟩])
  (.seq
  (.seq
   (.reg [] [⟨some 8,.mov (.tmp 0),none⟩,
    ⟨some 9,.len (.tmp 8),none⟩,
    ⟨some 10,.mov (.cst (.d (.int .i64 0))),none⟩])
   (.post [5] [0,1,2]
   (.block 0
    (.asrow 2 9 1 5
    (.keep [1,5,8,9,10] []
     (.loop
     (.post [1,5,8,9,10] [0,1,2]
      (.seq
      (.reg [] [⟨some 11,.cmp .lss (.tmp 10) (.tmp 9),none⟩])
      (.seq
       (.cond (.tmp 11)
       .skip
       (.exit 0))
       (.seq
       (.block 1
        (.seq
        (.reg [0] [⟨some 12,.ixa 3 (.tmp 8) (.tmp 10),none⟩,
         ⟨some 13,.ld true 3 (.tmp 12),none⟩,
         ⟨some 7,.alloc 0 [(.d (.str [])),(.d (.int .i64 0)),.undef],none⟩,
         ⟨none,.st 3 (.tmp 7) (.tmp 13),none⟩])
        (.reg [1,2] [⟨some 14,.mov (.tmp 5),none⟩,
         ⟨some 15,.mov (.tmp 1),none⟩,
         ⟨some 16,.ld true 3 (.tmp 7),none⟩,
         ⟨some 17,.callv (.tmp 15) [(.tmp 16)],none⟩,
         ⟨some 18,.bsl 1 9 1 1 [(.str [])] [(0,(.tmp 17))],none⟩,
         ⟨some 19,.app 2 9 1 16 (.tmp 14) (.tmp 18),none⟩,
         ⟨some 5,.mov (.tmp 19),none⟩])))
       (.reg [] [⟨some 20,.arith .add .i64 (.tmp 10) (.cst (.d (.int .i64 1))),none⟩,
        ⟨some 10,.mov (.tmp 20),none⟩])))))))))))
  (.seq
   (.reg [] [⟨some 21,.mov (.tmp 5),none⟩,
    ⟨some 4,.mov (.tmp 21),none⟩])
   .ret))))⟩
def jr120:AFun:=⟨5,1,[.tmp 2],
 (.seq
 (.reg [0] [⟨some 1,.cbx 0 3 (.tmp 0),none⟩,
  ⟨some 2,.mov (.cst (.d (.str []))),none⟩])
 (.seq
  (.reg [] [⟨some 3,.fad 0 (.tmp 1),none⟩,
   ⟨some 4,.ld false 1 (.tmp 3),none⟩,
   ⟨some 2,.mov (.tmp 4),none⟩])
  .ret))⟩
def jr121:AFun:=⟨22,3,[.tmp 4],
 (.seq
 (.reg [] [⟨some 4,.mov (.cst (.nils 1)),none⟩])
 (.seq
  (.reg [] [⟨some 5,.mov (.cst (.nils 1)),none⟩])
  (.seq
  (.seq
   (.reg [] [⟨some 8,.mov (.tmp 0),none⟩,
    ⟨some 9,.len (.tmp 8),none⟩,
    ⟨some 10,.mov (.cst (.d (.int .i64 0))),none⟩])
   (.post [5] [0,1,2]
   (.block 0
    (.asrow 2 43 1 5
    (.keep [1,5,8,9,10] []
     (.loop
     (.post [1,5,8,9,10] [0,1,2]
      (.seq
      (.reg [] [⟨some 11,.cmp .lss (.tmp 10) (.tmp 9),none⟩])
      (.seq
       (.cond (.tmp 11)
       .skip
       (.exit 0))
       (.seq
       (.block 1
        (.seq
        (.reg [0] [⟨some 12,.ixa 3 (.tmp 8) (.tmp 10),none⟩,
         ⟨some 13,.ld true 3 (.tmp 12),none⟩,
         ⟨some 7,.alloc 0 [(.d (.str [])),(.d (.int .i64 0)),.undef],none⟩,
         ⟨none,.st 3 (.tmp 7) (.tmp 13),none⟩])
        (.reg [1,2] [⟨some 14,.mov (.tmp 5),none⟩,
         ⟨some 15,.mov (.tmp 1),none⟩,
         ⟨some 16,.ld true 3 (.tmp 7),none⟩,
         ⟨some 17,.callv (.tmp 15) [(.tmp 16)],none⟩,
         ⟨some 18,.bsl 1 43 1 1 [(.int .i64 0)] [(0,(.tmp 17))],none⟩,
         ⟨some 19,.app 2 43 1 8 (.tmp 14) (.tmp 18),none⟩,
         ⟨some 5,.mov (.tmp 19),none⟩])))
       (.reg [] [⟨some 20,.arith .add .i64 (.tmp 10) (.cst (.d (.int .i64 1))),none⟩,
        ⟨some 10,.mov (.tmp 20),none⟩])))))))))))
  (.seq
   (.reg [] [⟨some 21,.mov (.tmp 5),none⟩,
    ⟨some 4,.mov (.tmp 21),none⟩])
   .ret))))⟩
def jr122:AFun:=⟨5,1,[.tmp 2],
 (.seq
 (.reg [0] [⟨some 1,.cbx 0 3 (.tmp 0),none⟩,
  ⟨some 2,.mov (.cst (.d (.int .i64 0))),none⟩])
 (.seq
  (.reg [] [⟨some 3,.fad 1 (.tmp 1),none⟩,
   ⟨some 4,.ld false 1 (.tmp 3),none⟩,
   ⟨some 2,.mov (.tmp 4),none⟩])
  .ret))⟩
def jr57:AFun:=⟨26,1,[.tmp 8,.tmp 9],
 (.seq
 (.reg [0] [⟨some 4,.cbx 0 3 (.tmp 0),none⟩,
  ⟨some 8,.mov (.cst (.nils 1)),none⟩,
  ⟨some 9,.mov (.cst (.d (.int .i64 0))),none⟩])
 (.seq
  (.reg [] [⟨some 13,.ld true 3 (.tmp 4),none⟩,
   ⟨some 14,.mov (.tmp 1),none⟩,
   ⟨some 15,.mov (.tmp 2),none⟩,
   ⟨some 16,.mov (.tmp 3),none⟩,
   ⟨some 17,.build [(.d (.bool false)),(.d (.bool false)),(.nils 2),(.nils 9),(.d (.int .i64 0)),(.d (.int .i64 0))] [(0,3,(.tmp 13)),(3,1,(.tmp 14)),(4,1,(.tmp 15)),(5,1,(.tmp 16))],none⟩,
   ⟨some 18,.call 42 [(.tmp 17)],none⟩,
   ⟨some 12,.mov (.tmp 18),none⟩,
   ⟨some 19,.ext 0 (.tmp 12),none⟩,
   ⟨some 20,.ext 1 (.tmp 12),none⟩,
   ⟨some 10,.mov (.tmp 19),none⟩,
   ⟨some 11,.mov (.tmp 20),none⟩])
  (.seq
  (.seq
   (.reg [] [⟨some 21,.mov (.tmp 11),none⟩,
    ⟨some 22,.cmp .neq (.tmp 21) (.cst (.d (.int .i64 0))),none⟩])
   (.cond (.tmp 22)
   (.seq
    (.reg [] [⟨some 23,.mov (.tmp 11),none⟩,
     ⟨some 8,.mov (.cst (.nils 1)),none⟩,
     ⟨some 9,.mov (.tmp 23),none⟩])
    .ret)
   .skip))
  (.seq
   (.reg [] [⟨some 24,.mov (.tmp 10),none⟩,
    ⟨some 25,.call 43 [(.tmp 24),(.cst (.d (.fn (.func 44) [])))],none⟩,
    ⟨some 8,.mov (.tmp 25),none⟩,
    ⟨some 9,.mov (.cst (.d (.int .i64 0))),none⟩])
   .ret))))⟩
def jr59:AFun:=⟨32,4,[.cell 8 3 true,.tmp 9],
 (.seq
 (.reg [0,1] [⟨some 4,.cbx 0 3 (.tmp 0),none⟩,
  ⟨some 8,.alloc 1 [(.d (.bool false)),(.d (.bool false)),(.nils 2)],none⟩,
  ⟨some 9,.mov (.cst (.d (.int .i64 0))),none⟩])
 (.seq
  (.reg [] [⟨some 13,.ld true 3 (.tmp 4),none⟩,
   ⟨some 14,.mov (.tmp 1),none⟩,
   ⟨some 15,.mov (.tmp 2),none⟩,
   ⟨some 16,.mov (.tmp 3),none⟩,
   ⟨some 17,.build [(.d (.bool false)),(.d (.bool false)),(.nils 2),(.nils 9),(.d (.int .i64 0)),(.d (.int .i64 0))] [(0,3,(.tmp 13)),(3,1,(.tmp 14)),(4,1,(.tmp 15)),(5,1,(.tmp 16))],none⟩,
   ⟨some 18,.call 42 [(.tmp 17)],none⟩,
   ⟨some 12,.mov (.tmp 18),none⟩,
   ⟨some 19,.ext 0 (.tmp 12),none⟩,
   ⟨some 20,.ext 1 (.tmp 12),none⟩,
   ⟨some 10,.mov (.tmp 19),none⟩,
   ⟨some 11,.mov (.tmp 20),none⟩])
  (.seq
  (.seq
   (.reg [2,3] [⟨some 21,.mov (.tmp 11),none⟩,
    ⟨some 22,.bsl 2 43 1 1 [(.int .i64 0)] [(0,(.tmp 21))],none⟩,
    ⟨some 23,.mov (.tmp 10),none⟩,
    ⟨some 24,.call 45 [(.tmp 23),(.cst (.d (.fn (.func 46) [])))],none⟩,
    ⟨some 25,.app 3 43 1 8 (.tmp 22) (.tmp 24),none⟩,
    ⟨some 26,.call 33 [(.tmp 25)],none⟩,
    ⟨some 11,.mov (.tmp 26),none⟩])
   (.seq
   (.reg [] [⟨some 27,.mov (.tmp 11),none⟩,
    ⟨some 28,.cmp .neq (.tmp 27) (.cst (.d (.int .i64 0))),none⟩])
   (.cond (.tmp 28)
    (.seq
    (.reg [] [⟨some 29,.build [(.d (.bool false)),(.d (.bool false)),(.nils 2)] [],none⟩,
     ⟨some 30,.mov (.tmp 11),none⟩,
     ⟨none,.st 3 (.tmp 8) (.tmp 29),none⟩,
     ⟨some 9,.mov (.tmp 30),none⟩])
    .ret)
    .skip)))
  (.seq
   (.reg [] [⟨some 31,.build [(.d (.bool false)),(.d (.bool false)),(.nils 2)] [],none⟩,
    ⟨none,.st 3 (.tmp 8) (.tmp 31),none⟩,
    ⟨some 9,.mov (.cst (.d (.int .i64 0))),none⟩])
   .ret))))⟩
theorem c165 (s:Sw) (l:List Hr) (t f:Int):CallDet Tryz.prog 99 [.d (.agg [.bool s.on,.bool s.rd,.slice 2 (ods s.os),.slice 9 (hrs l),.int .i64 t,.int .i64 f])] [.bool (!s.on)]:=by
 refine call_of_vc (x:=jr165) (by kernel_rfl) rfl ?_
 exact rfl
theorem c166 (s:Sw) (l:List Hr) (t f:Int) (hl:l.length≤1048576) (h0:0≤t) (h1:t≤100000000) (hg:∀ h∈l,h.ok):CallDet Tryz.prog 100 [.d (.agg [.bool s.on,.bool s.rd,.slice 2 (ods s.os),.slice 9 (hrs l),.int .i64 t,.int .i64 f])] [.bool (prL l t)]:=by
 have c113_:=c113 l t hl h0 (by omega) hg
 refine call_of_vc (x:=jr166) (by kernel_rfl) rfl ?_
 refine ca c113_ ?_
 exact rfl
theorem c188 (o:Od) (s:Sw) (l:List Hr) (t f:Int) (h0:0≤t) (h1:t≤100000000) (h2:0≤o.t∧o.t≤100000000):CallDet Tryz.prog 106 [.d (.agg [.str o.o,.int .i64 o.t]),.d (.agg [.bool s.on,.bool s.rd,.slice 2 (ods s.os),.slice 9 (hrs l),.int .i64 t,.int .i64 f])] [.bool (decide (t - o.t≤f))]:=by
 refine call_of_vc (x:=jr188) (by kernel_rfl) rfl ?_
 refine ar_sub ?_ ?_
 refine an ?_ ?_
 (show (-9223372036854775808:Int)≤t - Od.t o; omega)
 (show t - Od.t o≤(9223372036854775807:Int); omega)
 refine sd ?_
 exact rfl
structure Kn where
 k:Nat
 n:Int
theorem c167 (s:Sw) (l:List Hr) (t f:Int) (hl:s.os.length≤1048576) (h0:0≤t) (h1:t≤100000000) (ht:∀ o∈s.os,0≤o.t∧o.t≤100000000):CallDet Tryz.prog 101 [.d (.agg [.bool s.on,.bool s.rd,.slice 2 (ods s.os),.slice 9 (hrs l),.int .i64 t,.int .i64 f])] [.bool (few s t f)]:=by
 have hlen:=ods_len s.os
 unfold few
 refine call_of_vc (x:=jr167) (by kernel_rfl) rfl ?_
 rotate_left
 refine loop_st (fun p:Kn=>⟨[(1,.ptr 0 0),(3,.d (.fn (.func 106) [])),(4,.d (.int .i64 (p.n))),(9,.d (.slice 2 (ods s.os))),(10,.d (.int .i64 (((ods s.os).length:Nat):Int))),(11,.d (.int .i64 ((p.k:Nat))))],[.cbox [.bool s.on,.bool s.rd,.slice 2 (ods s.os),.slice 9 (hrs l),.int .i64 t,.int .i64 f],.none]⟩) (fun p=>(p.k≤s.os.length∧0≤p.n∧p.n≤p.k)∧nf t f s.os 0=nf t f (s.os.drop p.k) p.n) (fun p=>s.os.length - p.k) ⟨0,0⟩ rfl ⟨⟨Nat.zero_le _,Int.le_refl _,Int.le_refl _⟩,rfl⟩ ?_
 rintro ⟨k,n⟩ ⟨⟨hk,hn0,hn1⟩,hi⟩
 have hk:k≤s.os.length:=hk
 have hn0:0≤n:=hn0
 have hn1:n≤k:=hn1
 dsimp only at hi ⊢
 by_cases hkn:k < s.os.length
 ·refine Exists.elim (get_lt s.os hkn) fun o hx=>?_
  have hx1:=ods_at hx
  have c188_:=c188 o s l t f h0 h1 (ht o (List.mem_of_getElem? hx))
  rw [drop_at hx,nf] at hi
  by_cases hf:t - o.t≤f
  ·rw [decide_eq_true hf] at hi c188_
   have fin:∃ a':Kn,(((a'.k≤s.os.length∧0≤a'.n∧a'.n≤a'.k)∧nf t f s.os 0=nf t f (s.os.drop a'.k) a'.n)∧s.os.length - a'.k < s.os.length - k)∧(⟨[(1,.ptr 0 0),(3,.d (.fn (.func 106) [])),(4,.d (.int .i64 (n+1))),(9,.d (.slice 2 (ods s.os))),(10,.d (.int .i64 (((ods s.os).length:Nat):Int))),(11,.d (.int .i64 ((k:Int)+1)))],[.cbox [.bool s.on,.bool s.rd,.slice 2 (ods s.os),.slice 9 (hrs l),.int .i64 t,.int .i64 f],.none]⟩:St)=⟨[(1,.ptr 0 0),(3,.d (.fn (.func 106) [])),(4,.d (.int .i64 (a'.n))),(9,.d (.slice 2 (ods s.os))),(10,.d (.int .i64 (((ods s.os).length:Nat):Int))),(11,.d (.int .i64 ((a'.k:Nat))))],[.cbox [.bool s.on,.bool s.rd,.slice 2 (ods s.os),.slice 9 (hrs l),.int .i64 t,.int .i64 f],.none]⟩:=⟨⟨k+1,n+1⟩,⟨⟨⟨by show k+1≤_; omega,by show 0≤n+1; omega,by show n+1≤((k+1:Nat):Int); omega⟩,hi⟩,by show s.os.length - (k+1) < _; omega⟩,rfl⟩
   refine sd ?_
   refine b_lt (fun t1=>?_) (fun t1=>?_)
   refine ix_at hx1 ?_ ?_
   (show (0:Int)≤(↑k:Int); omega)
   refine ca c188_ ?_
   refine ar_add ?_ ?_
   refine an ?_ ?_
   (show (-9223372036854775808:Int)≤n+(1:Int); omega)
   (show n+(1:Int)≤(9223372036854775807:Int); omega)
   refine ar_add ?_ ?_
   refine an ?_ ?_
   (show (-9223372036854775808:Int)≤(↑k:Int)+(1:Int); omega)
   (show (↑k:Int)+(1:Int)≤(9223372036854775807:Int); omega)
   rotate_left
   (exfalso; omega)
   all_goals exact fin
  ·rw [decide_eq_false hf] at hi c188_
   have fin:∃ a':Kn,(((a'.k≤s.os.length∧0≤a'.n∧a'.n≤a'.k)∧nf t f s.os 0=nf t f (s.os.drop a'.k) a'.n)∧s.os.length - a'.k < s.os.length - k)∧(⟨[(1,.ptr 0 0),(3,.d (.fn (.func 106) [])),(4,.d (.int .i64 (n))),(9,.d (.slice 2 (ods s.os))),(10,.d (.int .i64 (((ods s.os).length:Nat):Int))),(11,.d (.int .i64 ((k:Int)+1)))],[.cbox [.bool s.on,.bool s.rd,.slice 2 (ods s.os),.slice 9 (hrs l),.int .i64 t,.int .i64 f],.none]⟩:St)=⟨[(1,.ptr 0 0),(3,.d (.fn (.func 106) [])),(4,.d (.int .i64 (a'.n))),(9,.d (.slice 2 (ods s.os))),(10,.d (.int .i64 (((ods s.os).length:Nat):Int))),(11,.d (.int .i64 ((a'.k:Nat))))],[.cbox [.bool s.on,.bool s.rd,.slice 2 (ods s.os),.slice 9 (hrs l),.int .i64 t,.int .i64 f],.none]⟩:=⟨⟨k+1,n⟩,⟨⟨⟨by show k+1≤_; omega,hn0,by show n≤((k+1:Nat):Int); omega⟩,hi⟩,by show s.os.length - (k+1) < _; omega⟩,rfl⟩
   refine sd ?_
   refine b_lt (fun t1=>?_) (fun t1=>?_)
   refine ix_at hx1 ?_ ?_
   (show (0:Int)≤(↑k:Int); omega)
   refine ca c188_ ?_
   refine ar_add ?_ ?_
   refine an ?_ ?_
   (show (-9223372036854775808:Int)≤(↑k:Int)+(1:Int); omega)
   (show (↑k:Int)+(1:Int)≤(9223372036854775807:Int); omega)
   rotate_left
   (exfalso; omega)
   all_goals exact fin
 ·rw [List.drop_eq_nil_of_le (by omega)] at hi
  have hi:nf t f s.os 0=n:=hi
  rw [hi]
  refine sd ?_
  refine b_lt (fun t1=>?_) (fun t1=>?_)
  (exfalso; omega)
  refine sd ?_
  exact rfl
theorem c146:CallDet Tryz.prog 78 [] [.agg [.str [111,102,102],.int .i64 22,.fn (.func 99) [],.str [112,114,111,116,101,99,116,101,100],.int .i64 31,.fn (.func 100) [],.str [111,102,102,105,99,101,115],.int .i64 30,.fn (.func 101) []]]:=by
 refine call_of_vc (x:=jr146) (by kernel_rfl) rfl ?_
 exact rfl
def barK (s:Sw) (l:List Hr) (t f:Int):Nat→List Br
 | 0=>[]
 | 1=>w0 (!s.on)
 | 2=>w0 (!s.on)++w1 (prL l t)
 | _=>bars s l t f
theorem brs_app (a b:List Br):brs (a++b)=brs a++brs b:=List.map_append
theorem barK_len (s:Sw) (l:List Hr) (t f:Int) (k:Nat):(brs (barK s l t f k)).length≤3:=by
 rw [brs_len]
 have h0:=w_len.1 (!s.on)
 have h1:=w_len.2.1 (prL l t)
 have h2:=w_len.2.2 (few s t f)
 match k with
 | 0=>exact Nat.zero_le _
 | 1=>show (w0 (!s.on)).length≤3; omega
 | 2=>show (w0 (!s.on)++w1 (prL l t)).length≤3; rw [List.length_append]; omega
 | _+3=>show (w0 (!s.on)++w1 (prL l t)++w2 (few s t f)).length≤3; rw [List.length_append,List.length_append]; omega
theorem c118 (s:Sw) (l:List Hr) (t f:Int) (hs:s.os.length≤1048576) (hl:l.length≤1048576):CallDet Tryz.prog 42 [.d (.agg [.bool s.on,.bool s.rd,.slice 2 (ods s.os),.slice 9 (hrs l),.int .i64 t,.int .i64 f])] (bif apE s l t f != 0 then [.slice 3 [],.int .i64 (apE s l t f)] else [.slice 3 (brs (bars s l t f)),.int .i64 0]):=by
 have c80_:=c80 s hs
 have c55_:=c55 l hl
 have c112_:=c112 t
 have c91_:=c91 f 0 1000000
 have c127_:=c127 s hs
 have c90_:CallDet Tryz.prog 33 [.d (.slice 1 [.int .i64 (ckS s),.int .i64 (ckH l),.int .i64 (within3 t 0 100000000),.int .i64 (within3 f 0 1000000),.int .i64 (bif decide (t < lst s) then 11 else 0)])] [.int .i64 (apE s l t f)]:=c90 [ckS s,ckH l,within3 t 0 100000000,within3 f 0 1000000,bif decide (t < lst s) then 11 else 0] (by simp)
 by_cases h:apE s l t f=0
 ·obtain ⟨hc,hH,⟨h0,h1⟩,hf,_⟩:=apE_0 h
  have hg:=(ckH_ok hH).2
  have c165_:=c165 s l t f
  have c166_:=c166 s l t f hl h0 h1 hg
  have c167_:=c167 s l t f hs h0 h1 (ckS_t hc)
  have c146_:=c146
  rw [h] at c90_ ⊢
  refine call_of_vc (x:=jr118) (by kernel_rfl) rfl ?_
  refine ca c80_ ?_
  refine ca c55_ ?_
  refine ca c112_ ?_
  refine ca c91_ ?_
  refine ca c127_ ?_
  refine sd ?_
  refine ca (c92 _ _) ?_
  refine sd ?_
  refine sd ?_
  refine ca c90_ ?_
  refine sd ?_
  refine ca c146_ ?_
  rotate_left
  refine loop_st (fun k:Nat=>⟨[(1,.ptr 0 0),(5,.sl 4 (brs (barK s l t f k)).length),(32,.d (.agg [.str [111,102,102],.int .i64 22,.fn (.func 99) [],.str [112,114,111,116,101,99,116,101,100],.int .i64 31,.fn (.func 100) [],.str [111,102,102,105,99,101,115],.int .i64 30,.fn (.func 101) []])),(33,.d (.int .i64 ((k:Nat))))],[.cbox [.bool s.on,.bool s.rd,.slice 2 (ods s.os),.slice 9 (hrs l),.int .i64 t,.int .i64 f],.none,.none,.none,.row 126 3 (brs (barK s l t f k)) false]⟩) (fun k=>k≤3) (fun k=>3 - k) 0 rfl (Nat.zero_le _) ?_
  intro k hk
  have hk:k≤3:=hk
  have hlk:=barK_len s l t f k
  dsimp only
  match k,hk,hlk with
  | 0,_,hlk =>
   cases hb:(!s.on) with
   | true =>
    rw [hb] at c165_
    have fin:∃ a':Nat,(a'≤3∧3 - a' < 3 - 0)∧(⟨[(1,.ptr 0 0),(5,.sl 4 (brs (barK s l t f 0)++[Data.agg [.str [111,102,102],.int .i64 22,.fn (.func 99) []]]).length),(32,.d (.agg [.str [111,102,102],.int .i64 22,.fn (.func 99) [],.str [112,114,111,116,101,99,116,101,100],.int .i64 31,.fn (.func 100) [],.str [111,102,102,105,99,101,115],.int .i64 30,.fn (.func 101) []])),(33,.d (.int .i64 (((0:Nat):Int)+1)))],[.cbox [.bool s.on,.bool s.rd,.slice 2 (ods s.os),.slice 9 (hrs l),.int .i64 t,.int .i64 f],.none,.none,.none,.row 126 3 (brs (barK s l t f 0)++[Data.agg [.str [111,102,102],.int .i64 22,.fn (.func 99) []]]) false]⟩:St)=⟨[(1,.ptr 0 0),(5,.sl 4 (brs (barK s l t f a')).length),(32,.d (.agg [.str [111,102,102],.int .i64 22,.fn (.func 99) [],.str [112,114,111,116,101,99,116,101,100],.int .i64 31,.fn (.func 100) [],.str [111,102,102,105,99,101,115],.int .i64 30,.fn (.func 101) []])),(33,.d (.int .i64 ((a':Nat))))],[.cbox [.bool s.on,.bool s.rd,.slice 2 (ods s.os),.slice 9 (hrs l),.int .i64 t,.int .i64 f],.none,.none,.none,.row 126 3 (brs (barK s l t f a')) false]⟩:=⟨1,⟨by decide,by decide⟩,by
     have e:barK s l t f 1=barK s l t f 0++w0 true:=by rw [← hb]; rfl
     rw [e,brs_app]; rfl⟩
    refine sd ?_
    refine an ?_ ?_
    refine an ?_ ?_
    (show (0:Int)≤(↑(0:Nat):Int); omega)
    (show (↑(0:Nat):Int) < (↑(3:Nat):Int); omega)
    refine ca c165_ ?_
    refine sd ?_
    refine sd ?_
    refine sd ?_
    refine an ?_ ?_
    refine an ?_ ?_
    exact rfl
    refine an ?_ ?_
    exact rfl
    refine an ?_ ?_
    exact rfl
    refine an ?_ ?_
    (show ((0:Nat)+(1:Nat)) * (32:Nat)≤(2:Nat) ^ (47:Nat); omega)
    (show (0:Nat)+(1:Nat)≤(2:Nat) ^ (47:Nat); omega)
    refine ar_add ?_ ?_
    refine an ?_ ?_
    (show (-9223372036854775808:Int)≤(↑(0:Nat):Int)+(1:Int); omega)
    (show (↑(0:Nat):Int)+(1:Int)≤(9223372036854775807:Int); omega)
    rotate_left
    all_goals exact fin
   | false =>
    rw [hb] at c165_
    have fin:∃ a':Nat,(a'≤3∧3 - a' < 3 - 0)∧(⟨[(1,.ptr 0 0),(5,.sl 4 (brs (barK s l t f 0)).length),(32,.d (.agg [.str [111,102,102],.int .i64 22,.fn (.func 99) [],.str [112,114,111,116,101,99,116,101,100],.int .i64 31,.fn (.func 100) [],.str [111,102,102,105,99,101,115],.int .i64 30,.fn (.func 101) []])),(33,.d (.int .i64 (((0:Nat):Int)+1)))],[.cbox [.bool s.on,.bool s.rd,.slice 2 (ods s.os),.slice 9 (hrs l),.int .i64 t,.int .i64 f],.none,.none,.none,.row 126 3 (brs (barK s l t f 0)) false]⟩:St)=⟨[(1,.ptr 0 0),(5,.sl 4 (brs (barK s l t f a')).length),(32,.d (.agg [.str [111,102,102],.int .i64 22,.fn (.func 99) [],.str [112,114,111,116,101,99,116,101,100],.int .i64 31,.fn (.func 100) [],.str [111,102,102,105,99,101,115],.int .i64 30,.fn (.func 101) []])),(33,.d (.int .i64 ((a':Nat))))],[.cbox [.bool s.on,.bool s.rd,.slice 2 (ods s.os),.slice 9 (hrs l),.int .i64 t,.int .i64 f],.none,.none,.none,.row 126 3 (brs (barK s l t f a')) false]⟩:=⟨1,⟨by decide,by decide⟩,by
     have e:barK s l t f 1=barK s l t f 0++w0 false:=by rw [← hb]; rfl
     rw [e,show w0 false=[] from rfl,List.append_nil]; rfl⟩
    refine sd ?_
    refine an ?_ ?_
    refine an ?_ ?_
    (show (0:Int)≤(↑(0:Nat):Int); omega)
    (show (↑(0:Nat):Int) < (↑(3:Nat):Int); omega)
    refine ca c165_ ?_
    refine ar_add ?_ ?_
    refine an ?_ ?_
    (show (-9223372036854775808:Int)≤(↑(0:Nat):Int)+(1:Int); omega)
    (show (↑(0:Nat):Int)+(1:Int)≤(9223372036854775807:Int); omega)
    rotate_left
    all_goals exact fin
  | 1,_,hlk =>
   cases hb:(prL l t) with
   | true =>
    rw [hb] at c166_
    have fin:∃ a':Nat,(a'≤3∧3 - a' < 3 - 1)∧(⟨[(1,.ptr 0 0),(5,.sl 4 (brs (barK s l t f 1)++[Data.agg [.str [112,114,111,116,101,99,116,101,100],.int .i64 31,.fn (.func 100) []]]).length),(32,.d (.agg [.str [111,102,102],.int .i64 22,.fn (.func 99) [],.str [112,114,111,116,101,99,116,101,100],.int .i64 31,.fn (.func 100) [],.str [111,102,102,105,99,101,115],.int .i64 30,.fn (.func 101) []])),(33,.d (.int .i64 (((1:Nat):Int)+1)))],[.cbox [.bool s.on,.bool s.rd,.slice 2 (ods s.os),.slice 9 (hrs l),.int .i64 t,.int .i64 f],.none,.none,.none,.row 126 3 (brs (barK s l t f 1)++[Data.agg [.str [112,114,111,116,101,99,116,101,100],.int .i64 31,.fn (.func 100) []]]) false]⟩:St)=⟨[(1,.ptr 0 0),(5,.sl 4 (brs (barK s l t f a')).length),(32,.d (.agg [.str [111,102,102],.int .i64 22,.fn (.func 99) [],.str [112,114,111,116,101,99,116,101,100],.int .i64 31,.fn (.func 100) [],.str [111,102,102,105,99,101,115],.int .i64 30,.fn (.func 101) []])),(33,.d (.int .i64 ((a':Nat))))],[.cbox [.bool s.on,.bool s.rd,.slice 2 (ods s.os),.slice 9 (hrs l),.int .i64 t,.int .i64 f],.none,.none,.none,.row 126 3 (brs (barK s l t f a')) false]⟩:=⟨2,⟨by decide,by decide⟩,by
     have e:barK s l t f 2=barK s l t f 1++w1 true:=by rw [← hb]; rfl
     rw [e,brs_app]; rfl⟩
    refine sd ?_
    refine an ?_ ?_
    refine an ?_ ?_
    (show (0:Int)≤(↑(1:Nat):Int); omega)
    (show (↑(1:Nat):Int) < (↑(3:Nat):Int); omega)
    refine ca c166_ ?_
    refine sd ?_
    refine sd ?_
    refine sd ?_
    refine an ?_ ?_
    refine an ?_ ?_
    exact rfl
    refine an ?_ ?_
    exact rfl
    refine an ?_ ?_
    exact rfl
    refine an ?_ ?_
    (show (List.length (brs (barK s l t f (1:Nat)))+(1:Nat)) * (32:Nat)≤(2:Nat) ^ (47:Nat); omega)
    (show List.length (brs (barK s l t f (1:Nat)))+(1:Nat)≤(2:Nat) ^ (47:Nat); omega)
    refine ar_add ?_ ?_
    refine an ?_ ?_
    (show (-9223372036854775808:Int)≤(↑(1:Nat):Int)+(1:Int); omega)
    (show (↑(1:Nat):Int)+(1:Int)≤(9223372036854775807:Int); omega)
    rotate_left
    all_goals exact fin
   | false =>
    rw [hb] at c166_
    have fin:∃ a':Nat,(a'≤3∧3 - a' < 3 - 1)∧(⟨[(1,.ptr 0 0),(5,.sl 4 (brs (barK s l t f 1)).length),(32,.d (.agg [.str [111,102,102],.int .i64 22,.fn (.func 99) [],.str [112,114,111,116,101,99,116,101,100],.int .i64 31,.fn (.func 100) [],.str [111,102,102,105,99,101,115],.int .i64 30,.fn (.func 101) []])),(33,.d (.int .i64 (((1:Nat):Int)+1)))],[.cbox [.bool s.on,.bool s.rd,.slice 2 (ods s.os),.slice 9 (hrs l),.int .i64 t,.int .i64 f],.none,.none,.none,.row 126 3 (brs (barK s l t f 1)) false]⟩:St)=⟨[(1,.ptr 0 0),(5,.sl 4 (brs (barK s l t f a')).length),(32,.d (.agg [.str [111,102,102],.int .i64 22,.fn (.func 99) [],.str [112,114,111,116,101,99,116,101,100],.int .i64 31,.fn (.func 100) [],.str [111,102,102,105,99,101,115],.int .i64 30,.fn (.func 101) []])),(33,.d (.int .i64 ((a':Nat))))],[.cbox [.bool s.on,.bool s.rd,.slice 2 (ods s.os),.slice 9 (hrs l),.int .i64 t,.int .i64 f],.none,.none,.none,.row 126 3 (brs (barK s l t f a')) false]⟩:=⟨2,⟨by decide,by decide⟩,by
     have e:barK s l t f 2=barK s l t f 1++w1 false:=by rw [← hb]; rfl
     rw [e,show w1 false=[] from rfl,List.append_nil]; rfl⟩
    refine sd ?_
    refine an ?_ ?_
    refine an ?_ ?_
    (show (0:Int)≤(↑(1:Nat):Int); omega)
    (show (↑(1:Nat):Int) < (↑(3:Nat):Int); omega)
    refine ca c166_ ?_
    refine ar_add ?_ ?_
    refine an ?_ ?_
    (show (-9223372036854775808:Int)≤(↑(1:Nat):Int)+(1:Int); omega)
    (show (↑(1:Nat):Int)+(1:Int)≤(9223372036854775807:Int); omega)
    rotate_left
    all_goals exact fin
  | 2,_,hlk =>
   cases hb:(few s t f) with
   | true =>
    rw [hb] at c167_
    have fin:∃ a':Nat,(a'≤3∧3 - a' < 3 - 2)∧(⟨[(1,.ptr 0 0),(5,.sl 4 (brs (barK s l t f 2)++[Data.agg [.str [111,102,102,105,99,101,115],.int .i64 30,.fn (.func 101) []]]).length),(32,.d (.agg [.str [111,102,102],.int .i64 22,.fn (.func 99) [],.str [112,114,111,116,101,99,116,101,100],.int .i64 31,.fn (.func 100) [],.str [111,102,102,105,99,101,115],.int .i64 30,.fn (.func 101) []])),(33,.d (.int .i64 (((2:Nat):Int)+1)))],[.cbox [.bool s.on,.bool s.rd,.slice 2 (ods s.os),.slice 9 (hrs l),.int .i64 t,.int .i64 f],.none,.none,.none,.row 126 3 (brs (barK s l t f 2)++[Data.agg [.str [111,102,102,105,99,101,115],.int .i64 30,.fn (.func 101) []]]) false]⟩:St)=⟨[(1,.ptr 0 0),(5,.sl 4 (brs (barK s l t f a')).length),(32,.d (.agg [.str [111,102,102],.int .i64 22,.fn (.func 99) [],.str [112,114,111,116,101,99,116,101,100],.int .i64 31,.fn (.func 100) [],.str [111,102,102,105,99,101,115],.int .i64 30,.fn (.func 101) []])),(33,.d (.int .i64 ((a':Nat))))],[.cbox [.bool s.on,.bool s.rd,.slice 2 (ods s.os),.slice 9 (hrs l),.int .i64 t,.int .i64 f],.none,.none,.none,.row 126 3 (brs (barK s l t f a')) false]⟩:=⟨3,⟨by decide,by decide⟩,by
     have e:barK s l t f 3=barK s l t f 2++w2 true:=by rw [← hb]; rfl
     rw [e,brs_app]; rfl⟩
    refine sd ?_
    refine an ?_ ?_
    refine an ?_ ?_
    (show (0:Int)≤(↑(2:Nat):Int); omega)
    (show (↑(2:Nat):Int) < (↑(3:Nat):Int); omega)
    refine ca c167_ ?_
    refine sd ?_
    refine sd ?_
    refine sd ?_
    refine an ?_ ?_
    refine an ?_ ?_
    exact rfl
    refine an ?_ ?_
    exact rfl
    refine an ?_ ?_
    exact rfl
    refine an ?_ ?_
    (show (List.length (brs (barK s l t f (2:Nat)))+(1:Nat)) * (32:Nat)≤(2:Nat) ^ (47:Nat); omega)
    (show List.length (brs (barK s l t f (2:Nat)))+(1:Nat)≤(2:Nat) ^ (47:Nat); omega)
    refine ar_add ?_ ?_
    refine an ?_ ?_
    (show (-9223372036854775808:Int)≤(↑(2:Nat):Int)+(1:Int); omega)
    (show (↑(2:Nat):Int)+(1:Int)≤(9223372036854775807:Int); omega)
    rotate_left
    all_goals exact fin
   | false =>
    rw [hb] at c167_
    have fin:∃ a':Nat,(a'≤3∧3 - a' < 3 - 2)∧(⟨[(1,.ptr 0 0),(5,.sl 4 (brs (barK s l t f 2)).length),(32,.d (.agg [.str [111,102,102],.int .i64 22,.fn (.func 99) [],.str [112,114,111,116,101,99,116,101,100],.int .i64 31,.fn (.func 100) [],.str [111,102,102,105,99,101,115],.int .i64 30,.fn (.func 101) []])),(33,.d (.int .i64 (((2:Nat):Int)+1)))],[.cbox [.bool s.on,.bool s.rd,.slice 2 (ods s.os),.slice 9 (hrs l),.int .i64 t,.int .i64 f],.none,.none,.none,.row 126 3 (brs (barK s l t f 2)) false]⟩:St)=⟨[(1,.ptr 0 0),(5,.sl 4 (brs (barK s l t f a')).length),(32,.d (.agg [.str [111,102,102],.int .i64 22,.fn (.func 99) [],.str [112,114,111,116,101,99,116,101,100],.int .i64 31,.fn (.func 100) [],.str [111,102,102,105,99,101,115],.int .i64 30,.fn (.func 101) []])),(33,.d (.int .i64 ((a':Nat))))],[.cbox [.bool s.on,.bool s.rd,.slice 2 (ods s.os),.slice 9 (hrs l),.int .i64 t,.int .i64 f],.none,.none,.none,.row 126 3 (brs (barK s l t f a')) false]⟩:=⟨3,⟨by decide,by decide⟩,by
     have e:barK s l t f 3=barK s l t f 2++w2 false:=by rw [← hb]; rfl
     rw [e,show w2 false=[] from rfl,List.append_nil]; rfl⟩
    refine sd ?_
    refine an ?_ ?_
    refine an ?_ ?_
    (show (0:Int)≤(↑(2:Nat):Int); omega)
    (show (↑(2:Nat):Int) < (↑(3:Nat):Int); omega)
    refine ca c167_ ?_
    refine ar_add ?_ ?_
    refine an ?_ ?_
    (show (-9223372036854775808:Int)≤(↑(2:Nat):Int)+(1:Int); omega)
    (show (↑(2:Nat):Int)+(1:Int)≤(9223372036854775807:Int); omega)
    rotate_left
    all_goals exact fin
  | 3,_,hlk =>
   refine sd ?_
   refine sd ?_
   exact rfl
  | _+4,hk,_=>exact absurd hk (by omega)
 ·rw [bne_t h]
  refine call_of_vc (x:=jr118) (by kernel_rfl) rfl ?_
  refine ca c80_ ?_
  refine ca c55_ ?_
  refine ca c112_ ?_
  refine ca c91_ ?_
  refine ca c127_ ?_
  refine sd ?_
  refine ca (c92 _ _) ?_
  refine sd ?_
  refine sd ?_
  refine ca c90_ ?_
  refine sd ?_
  refine b_ne (fun t1=>?_) (fun t1=>?_)
  exact rfl
  (exfalso; omega)
theorem c120 (b:Br):CallDet Tryz.prog 44 [.d (.agg [.str b.w,.int .i64 b.e,.fn (.func b.f) []])] [.str b.w]:=by
 refine call_of_vc (x:=jr120) (by kernel_rfl) rfl ?_
 exact rfl
theorem c122 (b:Br):CallDet Tryz.prog 46 [.d (.agg [.str b.w,.int .i64 b.e,.fn (.func b.f) []])] [.int .i64 b.e]:=by
 refine call_of_vc (x:=jr122) (by kernel_rfl) rfl ?_
 exact rfl
theorem c119 (L:List Br) (hl:L.length≤1000000):CallDet Tryz.prog 43 [.d (.slice 3 (brs L)),.d (.fn (.func 44) [])] [.slice 1 (strs (L.map Br.w))]:=by
 have hll:=brs_len L
 refine call_of_vc (x:=jr119) (by kernel_rfl) rfl ?_
 refine loop_st (fun k:Nat=>⟨[(1,.d (.fn (.func 44) [])),(5,.sl 2 (strs ((L.take k).map Br.w)).length),(8,.d (.slice 3 (brs L))),(9,.d (.int .i64 (((brs L).length:Nat):Int))),(10,.d (.int .i64 ((k:Nat))))],[.none,.none,.row 9 1 (strs ((L.take k).map Br.w)) false]⟩) (fun k=>k≤L.length) (fun k=>L.length - k) 0 rfl (Nat.zero_le _) ?_
 intro k hk
 have hk:k≤L.length:=hk
 have hlk:(strs ((L.take k).map Br.w)).length=min k L.length:=by unfold strs; rw [List.length_map,List.length_map,List.length_take]
 dsimp only
 by_cases hkn:k < L.length
 ·refine Exists.elim (get_lt L hkn) fun b hx=>?_
  have hx1:=brs_at hx
  have c120_:=c120 b
  have fin:∃ a':Nat,(a'≤L.length∧L.length - a' < L.length - k)∧(⟨[(1,.d (.fn (.func 44) [])),(5,.sl 2 (strs ((L.take k).map Br.w)++[Data.str b.w]).length),(8,.d (.slice 3 (brs L))),(9,.d (.int .i64 (((brs L).length:Nat):Int))),(10,.d (.int .i64 ((k:Int)+1)))],[.none,.none,.row 9 1 (strs ((L.take k).map Br.w)++[Data.str b.w]) false]⟩:St)=⟨[(1,.d (.fn (.func 44) [])),(5,.sl 2 (strs ((L.take a').map Br.w)).length),(8,.d (.slice 3 (brs L))),(9,.d (.int .i64 (((brs L).length:Nat):Int))),(10,.d (.int .i64 ((a':Nat))))],[.none,.none,.row 9 1 (strs ((L.take a').map Br.w)) false]⟩:=⟨k+1,⟨by omega,by omega⟩,by rw [take_map_succ Br.w hx]; unfold strs; rw [List.map_append]; rfl⟩
  refine sd ?_
  refine b_lt (fun t1=>?_) (fun t1=>?_)
  refine ix_at hx1 ?_ ?_
  (show (0:Int)≤(↑k:Int); omega)
  refine ca c120_ ?_
  refine sd ?_
  refine sd ?_
  refine sd ?_
  refine an ?_ ?_
  refine an ?_ ?_
  exact rfl
  refine an ?_ ?_
  exact rfl
  refine an ?_ ?_
  exact rfl
  refine an ?_ ?_
  (show (List.length (strs (List.map Br.w (List.take k L)))+(1:Nat)) * (16:Nat)≤(2:Nat) ^ (47:Nat); omega)
  (show List.length (strs (List.map Br.w (List.take k L)))+(1:Nat)≤(2:Nat) ^ (47:Nat); omega)
  refine ar_add ?_ ?_
  refine an ?_ ?_
  (show (-9223372036854775808:Int)≤(↑k:Int)+(1:Int); omega)
  (show (↑k:Int)+(1:Int)≤(9223372036854775807:Int); omega)
  rotate_left
  (exfalso; omega)
  all_goals exact fin
 ·have e:L.take k=L:=List.take_of_length_le (by omega)
  rw [e]
  refine sd ?_
  refine b_lt (fun t1=>?_) (fun t1=>?_)
  (exfalso; omega)
  refine sd ?_
  exact rfl
theorem c121 (L:List Br) (hl:L.length≤1000000):CallDet Tryz.prog 45 [.d (.slice 3 (brs L)),.d (.fn (.func 46) [])] [.slice 1 (ints (L.map Br.e))]:=by
 have hll:=brs_len L
 refine call_of_vc (x:=jr121) (by kernel_rfl) rfl ?_
 refine loop_st (fun k:Nat=>⟨[(1,.d (.fn (.func 46) [])),(5,.sl 2 (ints ((L.take k).map Br.e)).length),(8,.d (.slice 3 (brs L))),(9,.d (.int .i64 (((brs L).length:Nat):Int))),(10,.d (.int .i64 ((k:Nat))))],[.none,.none,.row 43 1 (ints ((L.take k).map Br.e)) false]⟩) (fun k=>k≤L.length) (fun k=>L.length - k) 0 rfl (Nat.zero_le _) ?_
 intro k hk
 have hk:k≤L.length:=hk
 have hlk:(ints ((L.take k).map Br.e)).length=min k L.length:=by unfold ints; rw [List.length_map,List.length_map,List.length_take]
 dsimp only
 by_cases hkn:k < L.length
 ·refine Exists.elim (get_lt L hkn) fun b hx=>?_
  have hx1:=brs_at hx
  have c122_:=c122 b
  have fin:∃ a':Nat,(a'≤L.length∧L.length - a' < L.length - k)∧(⟨[(1,.d (.fn (.func 46) [])),(5,.sl 2 (ints ((L.take k).map Br.e)++[Data.int .i64 b.e]).length),(8,.d (.slice 3 (brs L))),(9,.d (.int .i64 (((brs L).length:Nat):Int))),(10,.d (.int .i64 ((k:Int)+1)))],[.none,.none,.row 43 1 (ints ((L.take k).map Br.e)++[Data.int .i64 b.e]) false]⟩:St)=⟨[(1,.d (.fn (.func 46) [])),(5,.sl 2 (ints ((L.take a').map Br.e)).length),(8,.d (.slice 3 (brs L))),(9,.d (.int .i64 (((brs L).length:Nat):Int))),(10,.d (.int .i64 ((a':Nat))))],[.none,.none,.row 43 1 (ints ((L.take a').map Br.e)) false]⟩:=⟨k+1,⟨by omega,by omega⟩,by rw [take_map_succ Br.e hx]; unfold ints; rw [List.map_append]; rfl⟩
  refine sd ?_
  refine b_lt (fun t1=>?_) (fun t1=>?_)
  refine ix_at hx1 ?_ ?_
  (show (0:Int)≤(↑k:Int); omega)
  refine ca c122_ ?_
  refine sd ?_
  refine sd ?_
  refine sd ?_
  refine an ?_ ?_
  refine an ?_ ?_
  exact rfl
  refine an ?_ ?_
  exact rfl
  refine an ?_ ?_
  exact rfl
  refine an ?_ ?_
  (show (List.length (ints (List.map Br.e (List.take k L)))+(1:Nat)) * (8:Nat)≤(2:Nat) ^ (47:Nat); omega)
  (show List.length (ints (List.map Br.e (List.take k L)))+(1:Nat)≤(2:Nat) ^ (47:Nat); omega)
  refine ar_add ?_ ?_
  refine an ?_ ?_
  (show (-9223372036854775808:Int)≤(↑k:Int)+(1:Int); omega)
  (show (↑k:Int)+(1:Int)≤(9223372036854775807:Int); omega)
  rotate_left
  (exfalso; omega)
  all_goals exact fin
 ·have e:L.take k=L:=List.take_of_length_le (by omega)
  rw [e]
  refine sd ?_
  refine b_lt (fun t1=>?_) (fun t1=>?_)
  (exfalso; omega)
  refine sd ?_
  exact rfl
theorem bars_len (s:Sw) (l:List Hr) (t f:Int):(bars s l t f).length≤3:=by
 have h:=barK_len s l t f 3
 rw [brs_len] at h
 exact h
theorem c57 (s:Sw) (l:List Hr) (t f:Int) (hs:s.os.length≤1048576) (hl:l.length≤1048576):CallDet Tryz.prog 12 [.d (.agg [.bool s.on,.bool s.rd,.slice 2 (ods s.os)]),.d (.slice 9 (hrs l)),.d (.int .i64 t),.d (.int .i64 f)] (bif apE s l t f != 0 then [.slice 1 [],.int .i64 (apE s l t f)] else [.slice 1 (strs ((bars s l t f).map Br.w)),.int .i64 0]):=by
 have c118_:=c118 s l t f hs hl
 have hb:=bars_len s l t f
 have c119_:=c119 (bars s l t f) (by omega)
 by_cases h:apE s l t f=0
 ·rw [h] at c118_ ⊢
  refine call_of_vc (x:=jr57) (by kernel_rfl) rfl ?_
  refine ca c118_ ?_
  refine sd ?_
  refine ca c119_ ?_
  exact rfl
 ·rw [bne_t h] at c118_ ⊢
  refine call_of_vc (x:=jr57) (by kernel_rfl) rfl ?_
  refine ca c118_ ?_
  refine sd ?_
  refine b_ne (fun t1=>?_) (fun t1=>?_)
  exact rfl
  (exfalso; omega)
def opE (s:Sw) (l:List Hr) (t f:Int):Int:=bif apE s l t f != 0 then apE s l t f else firstOf ((bars s l t f).map Br.e)
theorem c59 (s:Sw) (l:List Hr) (t f:Int) (hs:s.os.length≤1048576) (hl:l.length≤1048576):CallDet Tryz.prog 13 [.d (.agg [.bool s.on,.bool s.rd,.slice 2 (ods s.os)]),.d (.slice 9 (hrs l)),.d (.int .i64 t),.d (.int .i64 f)] [.agg [.bool false,.bool false,.slice 2 []],.int .i64 (opE s l t f)]:=by
 have c118_:=c118 s l t f hs hl
 have hb:=bars_len s l t f
 unfold opE
 by_cases h:apE s l t f=0
 ·have c121_:=c121 (bars s l t f) (by omega)
  have hil:(ints ((bars s l t f).map Br.e)).length=(bars s l t f).length:=by unfold ints; rw [List.length_map,List.length_map]
  have c90_:CallDet Tryz.prog 33 [.d (.slice 1 ([Data.int .i64 0]++ints ((bars s l t f).map Br.e)))] [.int .i64 (firstOf ((bars s l t f).map Br.e))]:=c90 (0::(bars s l t f).map Br.e) (by rw [List.length_cons,List.length_map]; omega)
  rw [h] at c118_ ⊢
  by_cases h2:firstOf ((bars s l t f).map Br.e)=0
  ·rw [h2] at c90_ ⊢
   refine call_of_vc (x:=jr59) (by kernel_rfl) rfl ?_
   refine ca c118_ ?_
   refine sd ?_
   refine ca c121_ ?_
   refine sd ?_
   refine an ?_ ?_
   refine an ?_ ?_
   exact rfl
   refine an ?_ ?_
   exact rfl
   refine an ?_ ?_
   exact rfl
   refine an ?_ ?_
   (show ((1:Nat)+List.length (ints (List.map Br.e (bars s l t f)))) * (8:Nat)≤(2:Nat) ^ (47:Nat); omega)
   (show (1:Nat)+List.length (ints (List.map Br.e (bars s l t f)))≤(2:Nat) ^ (47:Nat); omega)
   refine sd ?_
   refine ca c90_ ?_
   refine sd ?_
   exact rfl
  ·refine call_of_vc (x:=jr59) (by kernel_rfl) rfl ?_
   refine ca c118_ ?_
   refine sd ?_
   refine ca c121_ ?_
   refine sd ?_
   refine an ?_ ?_
   refine an ?_ ?_
   exact rfl
   refine an ?_ ?_
   exact rfl
   refine an ?_ ?_
   exact rfl
   refine an ?_ ?_
   (show ((1:Nat)+List.length (ints (List.map Br.e (bars s l t f)))) * (8:Nat)≤(2:Nat) ^ (47:Nat); omega)
   (show (1:Nat)+List.length (ints (List.map Br.e (bars s l t f)))≤(2:Nat) ^ (47:Nat); omega)
   refine sd ?_
   refine ca c90_ ?_
   refine sd ?_
   refine b_ne (fun t1=>?_) (fun t1=>?_)
   exact rfl
   (exfalso; omega)
 ·have c121_:CallDet Tryz.prog 45 [.d (.slice 3 []),.d (.fn (.func 46) [])] [.slice 1 []]:=c121 [] (by simp)
  have c90_:CallDet Tryz.prog 33 [.d (.slice 1 ([Data.int .i64 (apE s l t f)]++[]))] [.int .i64 (apE s l t f)]:=by
   have hh:=c90 [apE s l t f] (by simp)
   rw [fo_nz h] at hh; exact hh
  rw [bne_t h] at c118_ ⊢
  refine call_of_vc (x:=jr59) (by kernel_rfl) rfl ?_
  refine ca c118_ ?_
  refine sd ?_
  refine ca c121_ ?_
  refine sd ?_
  refine an ?_ ?_
  refine an ?_ ?_
  exact rfl
  refine an ?_ ?_
  exact rfl
  refine an ?_ ?_
  exact rfl
  refine an ?_ ?_
  (show ((1:Nat)+(0:Nat)) * (8:Nat)≤(2:Nat) ^ (47:Nat); omega)
  (show (1:Nat)+(0:Nat)≤(2:Nat) ^ (47:Nat); omega)
  refine sd ?_
  refine ca c90_ ?_
  refine sd ?_
  refine b_ne (fun t1=>?_) (fun t1=>?_)
  exact rfl
  (exfalso; omega)
end Vc.L
