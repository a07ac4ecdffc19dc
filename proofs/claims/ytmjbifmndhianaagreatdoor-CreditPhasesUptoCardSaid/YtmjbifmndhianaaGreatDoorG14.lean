import Derived.Test.YtmjbifmndhianaaGreatDoorG13
set_option linter.unusedSectionVars false
set_option linter.unusedVariables false
set_option linter.unusedSimpArgs false
set_option maxRecDepth 10000
set_option maxHeartbeats 4000000
namespace Vc
open Go Go.Proofs
def jr16:AFun:=⟨32,4,[.cell 4 22 true,.tmp 5],
 (.seq
 (.reg [0,1] [⟨some 2,.cbx 0 22 (.tmp 0),none⟩,
  ⟨some 4,.alloc 1 [(.d (.int .i64 0)),(.d (.int .i64 0)),(.d (.int .i64 0)),(.d (.int .i64 0)),(.d (.int .u8 0)),(.d (.int .u8 0)),(.d (.int .u8 0)),(.d (.int .u8 0)),(.d (.int .u8 0)),(.d (.int .u8 0)),(.d (.int .u8 0)),(.d (.int .u8 0)),(.d (.int .u8 0)),(.d (.int .u8 0)),(.d (.int .u8 0)),(.d (.int .u8 0)),(.d (.int .u8 0)),(.d (.int .u8 0)),(.d (.int .u8 0)),(.d (.int .u8 0)),(.d (.bool false)),(.nils 1)],none⟩,
  ⟨some 5,.mov (.cst (.d (.int .i64 0))),none⟩])
 (.seq
  (.seq
  (.regd [2] [⟨some 8,.ld true 22 (.tmp 2),none⟩,
   ⟨some 9,.call 25 [(.tmp 8)],none⟩,
   ⟨some 10,.mov (.tmp 1),none⟩,
   ⟨some 11,.call 91 [(.tmp 10),(.cst (.d (.int .i64 0))),(.cst (.d (.int .i64 100000000)))],none⟩,
   ⟨some 12,.fad 0 (.tmp 2),none⟩,
   ⟨some 13,.ld false 1 (.tmp 12),none⟩,
   ⟨some 14,.mov (.tmp 1),none⟩,
   ⟨some 15,.arith .sub .i64 (.tmp 13) (.tmp 14),none⟩,
   ⟨some 16,.cmp .lss (.tmp 15) (.cst (.d (.int .i64 (-1000000000000)))),none⟩,
   ⟨some 17,.call 92 [(.tmp 16),(.cst (.d (.int .i64 4)))],none⟩,
   ⟨some 18,.bsl 2 30 1 3 [(.int .i64 0),(.int .i64 0),(.int .i64 0)] [(0,(.tmp 9)),(1,(.tmp 11)),(2,(.tmp 17))],none⟩,
   ⟨some 19,.call 90 [(.tmp 18)],none⟩,
   ⟨some 6,.mov (.tmp 19),none⟩] [(0,2),(1,2),(0,4),(1,4),(2,4),(3,4),(0,5),(1,5),(2,5),(3,5),(0,6),(1,6),(2,6),(3,6),(4,6),(5,6),(0,7),(1,7),(2,7),(3,7),(0,8),(1,8),(2,8),(3,8)])
  (.seq
   (.reg [] [⟨some 20,.mov (.tmp 6),none⟩,
    ⟨some 21,.cmp .neq (.tmp 20) (.cst (.d (.int .i64 0))),none⟩])
   (.cond (.tmp 21)
   (.seq
    (.reg [] [⟨some 22,.build [(.d (.int .i64 0)),(.d (.int .i64 0)),(.d (.int .i64 0)),(.d (.int .i64 0)),(.d (.int .u8 0)),(.d (.int .u8 0)),(.d (.int .u8 0)),(.d (.int .u8 0)),(.d (.int .u8 0)),(.d (.int .u8 0)),(.d (.int .u8 0)),(.d (.int .u8 0)),(.d (.int .u8 0)),(.d (.int .u8 0)),(.d (.int .u8 0)),(.d (.int .u8 0)),(.d (.int .u8 0)),(.d (.int .u8 0)),(.d (.int .u8 0)),(.d (.int .u8 0)),(.d (.bool false)),(.nils 1)] [],none⟩,
     ⟨some 23,.mov (.tmp 6),none⟩,
     ⟨none,.st 22 (.tmp 4) (.tmp 22),none⟩,
     ⟨some 5,.mov (.tmp 23),none⟩])
    .ret)
   .skip)))
  (.seq
  (.reg [3] [⟨some 24,.ld true 22 (.tmp 2),none⟩,
   ⟨some 25,.call 93 [(.tmp 24)],none⟩,
   ⟨some 7,.alloc 3 [(.d (.int .i64 0)),(.d (.int .i64 0)),(.d (.int .i64 0)),(.d (.int .i64 0)),(.d (.int .u8 0)),(.d (.int .u8 0)),(.d (.int .u8 0)),(.d (.int .u8 0)),(.d (.int .u8 0)),(.d (.int .u8 0)),(.d (.int .u8 0)),(.d (.int .u8 0)),(.d (.int .u8 0)),(.d (.int .u8 0)),(.d (.int .u8 0)),(.d (.int .u8 0)),(.d (.int .u8 0)),(.d (.int .u8 0)),(.d (.int .u8 0)),(.d (.int .u8 0)),(.d (.bool false)),(.nils 1)],none⟩,
   ⟨none,.st 22 (.tmp 7) (.tmp 25),none⟩])
  (.seq
   (.reg [] [⟨some 26,.fad 0 (.tmp 7),none⟩,
    ⟨some 27,.ld false 1 (.tmp 26),none⟩,
    ⟨some 28,.mov (.tmp 1),none⟩,
    ⟨some 29,.arith .sub .i64 (.tmp 27) (.tmp 28),none⟩,
    ⟨some 30,.fad 0 (.tmp 7),none⟩,
    ⟨none,.st 1 (.tmp 30) (.tmp 29),none⟩])
   (.seq
   (.reg [] [⟨some 31,.ld true 22 (.tmp 7),none⟩,
    ⟨none,.st 22 (.tmp 4) (.tmp 31),none⟩,
    ⟨some 5,.mov (.cst (.d (.int .i64 0))),none⟩])
   .ret)))))⟩
def jr18:AFun:=⟨12,1,[.tmp 2,.tmp 3],
 (.seq
 (.reg [0] [⟨some 1,.cbx 0 22 (.tmp 0),none⟩,
  ⟨some 2,.mov (.cst (.d (.int .i64 0))),none⟩,
  ⟨some 3,.mov (.cst (.d (.int .i64 0))),none⟩])
 (.seq
  (.seq
  (.reg [] [⟨some 5,.ld true 22 (.tmp 1),none⟩,
   ⟨some 6,.call 25 [(.tmp 5)],none⟩,
   ⟨some 4,.mov (.tmp 6),none⟩])
  (.seq
   (.reg [] [⟨some 7,.mov (.tmp 4),none⟩,
    ⟨some 8,.cmp .neq (.tmp 7) (.cst (.d (.int .i64 0))),none⟩])
   (.cond (.tmp 8)
   (.seq
    (.reg [] [⟨some 9,.mov (.tmp 4),none⟩,
     ⟨some 2,.mov (.cst (.d (.int .i64 0))),none⟩,
     ⟨some 3,.mov (.tmp 9),none⟩])
    .ret)
   .skip)))
  (.seq
  (.reg [] [⟨some 10,.ld true 22 (.tmp 1),none⟩,
   ⟨some 11,.call 95 [(.tmp 10)],none⟩,
   ⟨some 2,.mov (.tmp 11),none⟩,
   ⟨some 3,.mov (.cst (.d (.int .i64 0))),none⟩])
  .ret)))⟩
def jr19:AFun:=⟨13,1,[.tmp 2,.tmp 3],
 (.seq
 (.reg [0] [⟨some 1,.cbx 0 22 (.tmp 0),none⟩,
  ⟨some 2,.mov (.cst (.d (.bool false))),none⟩,
  ⟨some 3,.mov (.cst (.d (.int .i64 0))),none⟩])
 (.seq
  (.seq
  (.reg [] [⟨some 5,.ld true 22 (.tmp 1),none⟩,
   ⟨some 6,.call 25 [(.tmp 5)],none⟩,
   ⟨some 4,.mov (.tmp 6),none⟩])
  (.seq
   (.reg [] [⟨some 7,.mov (.tmp 4),none⟩,
    ⟨some 8,.cmp .neq (.tmp 7) (.cst (.d (.int .i64 0))),none⟩])
   (.cond (.tmp 8)
   (.seq
    (.reg [] [⟨some 9,.mov (.tmp 4),none⟩,
     ⟨some 2,.mov (.cst (.d (.bool false))),none⟩,
     ⟨some 3,.mov (.tmp 9),none⟩])
    .ret)
   .skip)))
  (.seq
  (.reg [] [⟨some 10,.ld true 22 (.tmp 1),none⟩,
   ⟨some 11,.call 95 [(.tmp 10)],none⟩,
   ⟨some 12,.cmp .lss (.tmp 11) (.cst (.d (.int .i64 0))),none⟩,
   ⟨some 2,.mov (.tmp 12),none⟩,
   ⟨some 3,.mov (.cst (.d (.int .i64 0))),none⟩])
  .ret)))⟩
theorem sub_i64 (a b:Int):∃ r,arithF .sub .i64 a b=some r∧(-9223372036854775808≤a - b→a - b≤9223372036854775807→r=a - b) :=
 ⟨IntKind.wrap .i64 (a - b),by simp only [arithF],fun h1 h2=>IntWalk.i64_in _ ⟨h1,h2⟩⟩
theorem first3 {x y z z':Int} (h:¬ (x=0∧y=0)):firstOf [x,y,z]=firstOf [x,y,z']∧¬ firstOf [x,y,z]=0:=by
 simp only [firstOf]
 by_cases hx:x=0
 ·subst hx
  have hy:¬ y=0:=fun e=>h ⟨rfl,e⟩
  simp [hy,bne_t hy]
 ·simp [hx,bne_t hx]
def spE (a:Ac) (c:Bool) (m:Int):Int:=firstOf [ckA a c,within3 m 0 100000000,bif decide (a.b - m < -1000000000000) then 4 else 0]
theorem ckA_b {a:Ac} {c:Bool} (h:ckA a c=0):(-1000000000000≤a.b∧a.b≤1000000000000)∧0≤a.e∧a.e≤100000000:=by
 have hf:ckF a c=0:=by
  by_cases e:ckF a c=0
  ·exact e
  ·rw [ckA,bne_t e] at h; exact h
 have h1:=firstOf_zero hf (within3 a.b (-1000000000000) 1000000000000) (by simp)
 have h2:=firstOf_zero hf (within3 a.e 0 100000000) (by simp)
 exact ⟨within_ok h1,within_ok h2⟩
theorem c16 (a:Ac) (c:Bool) (m:Int) (hl:a.u.length≤1048576):CallDet Tryz.prog 16 [.d (.agg [.int .i64 (a.b),.int .i64 (a.d),.int .i64 a.s,.int .i64 a.e,.int .u8 a.k.a,.int .u8 a.k.b,.int .u8 a.k.c,.int .u8 a.k.d,.int .u8 a.k.e,.int .u8 a.k.f,.int .u8 a.k.g,.int .u8 a.k.h,.int .u8 a.n.a,.int .u8 a.n.b,.int .u8 a.n.c,.int .u8 a.n.d,.int .u8 a.n.e,.int .u8 a.n.f,.int .u8 a.n.g,.int .u8 a.n.h,.bool c,.slice 1 (ints a.u)]),.d (.int .i64 m)] (bif spE a c m != 0 then [.agg [.int .i64 0,.int .i64 0,.int .i64 0,.int .i64 0,.int .u8 0,.int .u8 0,.int .u8 0,.int .u8 0,.int .u8 0,.int .u8 0,.int .u8 0,.int .u8 0,.int .u8 0,.int .u8 0,.int .u8 0,.int .u8 0,.int .u8 0,.int .u8 0,.int .u8 0,.int .u8 0,.bool false,.slice 1 []],.int .i64 (spE a c m)] else [.agg [.int .i64 (a.b - m),.int .i64 (a.d),.int .i64 a.s,.int .i64 a.e,.int .u8 a.k.a,.int .u8 a.k.b,.int .u8 a.k.c,.int .u8 a.k.d,.int .u8 a.k.e,.int .u8 a.k.f,.int .u8 a.k.g,.int .u8 a.k.h,.int .u8 a.n.a,.int .u8 a.n.b,.int .u8 a.n.c,.int .u8 a.n.d,.int .u8 a.n.e,.int .u8 a.n.f,.int .u8 a.n.g,.int .u8 a.n.h,.bool c,.slice 1 (ints a.u)],.int .i64 0]):=by
 obtain ⟨r,hr,hr2⟩:=sub_i64 a.b m
 have c25_:=c25 a c hl
 have c93_:=c93 a c hl
 have c91_:=c91 m 0 100000000
 have c90_:=c90 [ckA a c,within3 m 0 100000000,bif decide (r < -1000000000000) then 4 else 0] (by simp)
 have he:firstOf [ckA a c,within3 m 0 100000000,bif decide (r < -1000000000000) then 4 else 0]=spE a c m∧(spE a c m=0→(-1000000000000≤a.b∧a.b≤1000000000000)∧0≤m∧m≤100000000):=by
  by_cases h:ckA a c=0∧within3 m 0 100000000=0
  ·have h1:=(ckA_b h.1).1
   have h2:=within_ok h.2
   have e:=hr2 (by omega) (by omega)
   subst e
   exact ⟨rfl,fun _=>⟨h1,h2⟩⟩
  ·have:=first3 (z:=bif decide (r < -1000000000000) then 4 else 0) (z':=bif decide (a.b - m < -1000000000000) then 4 else 0) h
   exact ⟨this.1,fun e=>absurd (this.1.trans e) this.2⟩
 obtain ⟨he,hb⟩:=he
 by_cases h0:spE a c m=0
 ·rw [h0]
  obtain ⟨h1,h2⟩:=hb h0
  have e:=hr2 (by omega) (by omega)
  subst e
  rw [he,h0] at c90_
  refine call_of_vc (x:=jr16) (by kernel_rfl) rfl ?_
  refine ca c25_ ?_
  refine ca c91_ ?_
  refine ar_sub ?_ ?_
  refine an ?_ ?_
  (show (-9223372036854775808:Int)≤Ac.b a - m; omega)
  (show Ac.b a - m≤(9223372036854775807:Int); omega)
  refine sd ?_
  refine ca (c92 _ _) ?_
  refine sd ?_
  refine sd ?_
  refine ca c90_ ?_
  refine sd ?_
  refine ca c93_ ?_
  refine ar_sub ?_ ?_
  refine an ?_ ?_
  (show (-9223372036854775808:Int)≤Ac.b a - m; omega)
  (show Ac.b a - m≤(9223372036854775807:Int); omega)
  exact rfl
 ·rw [bne_t h0]
  rw [he] at c90_
  refine call_of_vc (x:=jr16) (by kernel_rfl) rfl ?_
  refine ca c25_ ?_
  refine ca c91_ ?_
  refine ar_is hr ?_
  refine sd ?_
  refine ca (c92 _ _) ?_
  refine sd ?_
  refine sd ?_
  refine ca c90_ ?_
  refine sd ?_
  refine b_ne (fun t1=>?_) (fun t1=>?_)
  exact rfl
  (exfalso; omega)
theorem c18 (a:Ac) (c:Bool) (hl:a.u.length≤1048576):CallDet Tryz.prog 18 [.d (.agg [.int .i64 (a.b),.int .i64 (a.d),.int .i64 a.s,.int .i64 a.e,.int .u8 a.k.a,.int .u8 a.k.b,.int .u8 a.k.c,.int .u8 a.k.d,.int .u8 a.k.e,.int .u8 a.k.f,.int .u8 a.k.g,.int .u8 a.k.h,.int .u8 a.n.a,.int .u8 a.n.b,.int .u8 a.n.c,.int .u8 a.n.d,.int .u8 a.n.e,.int .u8 a.n.f,.int .u8 a.n.g,.int .u8 a.n.h,.bool c,.slice 1 (ints a.u)])] (bif ckA a c != 0 then [.int .i64 0,.int .i64 (ckA a c)] else [.int .i64 (a.b+a.e),.int .i64 0]):=by
 have c25_:=c25 a c hl
 by_cases h0:ckA a c=0
 ·have h1:=ckA_b h0
  have c95_:=c95 a c (by omega) (by omega)
  rw [h0] at c25_ ⊢
  refine call_of_vc (x:=jr18) (by kernel_rfl) rfl ?_
  refine ca c25_ ?_
  refine sd ?_
  refine ca c95_ ?_
  exact rfl
 ·rw [bne_t h0]
  refine call_of_vc (x:=jr18) (by kernel_rfl) rfl ?_
  refine ca c25_ ?_
  refine sd ?_
  refine b_ne (fun t1=>?_) (fun t1=>?_)
  exact rfl
  (exfalso; omega)
theorem c19 (a:Ac) (c:Bool) (hl:a.u.length≤1048576):CallDet Tryz.prog 19 [.d (.agg [.int .i64 (a.b),.int .i64 (a.d),.int .i64 a.s,.int .i64 a.e,.int .u8 a.k.a,.int .u8 a.k.b,.int .u8 a.k.c,.int .u8 a.k.d,.int .u8 a.k.e,.int .u8 a.k.f,.int .u8 a.k.g,.int .u8 a.k.h,.int .u8 a.n.a,.int .u8 a.n.b,.int .u8 a.n.c,.int .u8 a.n.d,.int .u8 a.n.e,.int .u8 a.n.f,.int .u8 a.n.g,.int .u8 a.n.h,.bool c,.slice 1 (ints a.u)])] (bif ckA a c != 0 then [.bool false,.int .i64 (ckA a c)] else [.bool (decide (a.b+a.e < 0)),.int .i64 0]):=by
 have c25_:=c25 a c hl
 by_cases h0:ckA a c=0
 ·have h1:=ckA_b h0
  have c95_:=c95 a c (by omega) (by omega)
  rw [h0] at c25_ ⊢
  refine call_of_vc (x:=jr19) (by kernel_rfl) rfl ?_
  refine ca c25_ ?_
  refine sd ?_
  refine ca c95_ ?_
  refine sd ?_
  exact rfl
 ·rw [bne_t h0]
  refine call_of_vc (x:=jr19) (by kernel_rfl) rfl ?_
  refine ca c25_ ?_
  refine sd ?_
  refine b_ne (fun t1=>?_) (fun t1=>?_)
  exact rfl
  (exfalso; omega)
end Vc
