import Derived.Test.YtmjbifmndhianaaGreatDoorG12
set_option linter.unusedSectionVars false
set_option linter.unusedVariables false
set_option linter.unusedSimpArgs false
set_option maxRecDepth 10000
set_option maxHeartbeats 4000000
namespace Vc
open Go Go.Proofs
def bys (s:List Int):List Data:=s.map (Data.int .u8)
theorem bys_len (s:List Int):(bys s).length=s.length:=List.length_map _
theorem bys_at {l:List Int} {k:Nat} {x:Int} (h:l[k]?=some x):(bys l)[((k:Int)).toNat]?=some (.int .u8 x):=by
 show (l.map _)[k]?=_
 rw [List.getElem?_map,h]; rfl
def sealJ (j x:Int):List Int→Int
 | []=>x
 | b::r=>sealJ j (((2 * j+3) * x+IntKind.wrap .i64 b+j) % 256) r
theorem tmod_b {n:Int} (h:0≤n):0≤n % 256∧n % 256≤255:=by omega
theorem wrap_b {b:Int} (h:0≤b∧b≤255):0≤IntKind.wrap .i64 b∧IntKind.wrap .i64 b≤255:=by
 rw [IntWalk.i64_in _ (show -9223372036854775808≤b∧b≤9223372036854775807 by omega)]; exact h
theorem mul_b {j x:Int} (hj:0≤j∧j≤7) (hx:0≤x∧x≤255):0≤(2 * j+3) * x∧(2 * j+3) * x≤4335:=by
 have h1:0≤(2 * j+3) * x:=Int.mul_nonneg (by omega) hx.1
 have h2:(2 * j+3) * x≤17 * 255:=Int.mul_le_mul (by omega) hx.2 hx.1 (by omega)
 exact ⟨h1,by omega⟩
theorem sealJ_b:∀ (s:List Int) (j x:Int),(0≤j∧j≤7)→(0≤x∧x≤255)→(∀ b∈s,0≤b∧b≤255)→0≤sealJ j x s∧sealJ j x s≤255
 | [],j,x,_,hx,_=>hx
 | b::r,j,x,hj,hx,hs=>by
  have hb:=wrap_b (hs b List.mem_cons_self)
  have:=mul_b hj hx
  exact sealJ_b r j _ hj (tmod_b (by omega)) fun c hc=>hs c (List.mem_cons_of_mem _ hc)
def Ky.ok (k:Ky):Prop:=(0≤k.a∧k.a≤255)∧(0≤k.b∧k.b≤255)∧(0≤k.c∧k.c≤255)∧(0≤k.d∧k.d≤255)∧(0≤k.e∧k.e≤255)∧(0≤k.f∧k.f≤255)∧(0≤k.g∧k.g≤255)∧(0≤k.h∧k.h≤255)
@[irreducible] def seg163:ACode:=(.seq
 (.reg [] [⟨some 16,.mov (.tmp 1),none⟩,
 ⟨some 17,.len (.tmp 16),none⟩,
 ⟨some 18,.mov (.cst (.d (.int .i64 0))),none⟩])
 (.post [1,2,4,5,6,9] [0,1]
 (.block 2
 (.keep [1,2,4,5,6,9,16,17,18] [0,1]
 (.loop
 (.post [1,2,4,5,6,9,16,17,18] []
 (.seq
 (.reg [] [⟨some 19,.cmp .lss (.tmp 18) (.tmp 17),none⟩])
 (.seq
 (.cond (.tmp 19)
 .skip
 (.exit 2))
 (.seq
 (.block 3
 (.seq
 (.reg [] [⟨some 20,.ixa 1 (.tmp 16) (.tmp 18),none⟩,
 ⟨some 21,.ld false 1 (.tmp 20),none⟩,
 ⟨some 8,.mov (.tmp 21),none⟩])
 (.reg [] [⟨some 22,.mov (.tmp 5),none⟩,
 ⟨some 23,.arith .mul .i64 (.cst (.d (.int .i64 2))) (.tmp 22),none⟩,
 ⟨some 24,.arith .add .i64 (.tmp 23) (.cst (.d (.int .i64 3))),none⟩,
 ⟨some 25,.mov (.tmp 6),none⟩,
 ⟨some 26,.arith .mul .i64 (.tmp 24) (.tmp 25),none⟩,
 ⟨some 27,.mov (.tmp 8),none⟩,
 ⟨some 28,.conv .i64 (.tmp 27),none⟩,
 ⟨some 29,.arith .add .i64 (.tmp 26) (.tmp 28),none⟩,
 ⟨some 30,.mov (.tmp 5),none⟩,
 ⟨some 31,.arith .add .i64 (.tmp 29) (.tmp 30),none⟩,
 ⟨some 32,.arith .rem .i64 (.tmp 31) (.cst (.d (.int .i64 256))),none⟩,
 ⟨some 6,.mov (.tmp 32),none⟩])))
 (.reg [] [⟨some 33,.arith .add .i64 (.tmp 18) (.cst (.d (.int .i64 1))),none⟩,
 ⟨some 18,.mov (.tmp 33),none⟩]))))))))))
def jr163:AFun:=⟨40,2,[.cell 4 8 true],
 (.seq
 (.reg [0,1] [⟨some 2,.box 0 8 (.tmp 0),none⟩,
  ⟨some 4,.alloc 1 [(.d (.int .u8 0)),(.d (.int .u8 0)),(.d (.int .u8 0)),(.d (.int .u8 0)),(.d (.int .u8 0)),(.d (.int .u8 0)),(.d (.int .u8 0)),(.d (.int .u8 0))],none⟩])
 (.seq
  (.seq
  (.reg [] [⟨some 9,.mov (.cst (.d (.int .i64 0))),none⟩])
  (.post [2,4] [0,1]
   (.block 0
   (.keep [1,2,4,9] [0,1]
    (.loop
    (.post [1,2,4,9] []
     (.seq
     (.reg [] [⟨some 10,.cmp .lss (.tmp 9) (.cst (.d (.int .i64 8))),none⟩])
     (.seq
      (.cond (.tmp 10)
      .skip
      (.exit 0))
      (.seq
      (.block 1
       (.seq
       (.reg [] [⟨some 11,.mov (.tmp 9),none⟩,
        ⟨some 5,.mov (.tmp 11),none⟩])
       (.seq
        (.reg [] [⟨some 12,.mov (.tmp 5),none⟩,
         ⟨some 13,.ixp 8 1 (.tmp 2) (.tmp 12),none⟩,
         ⟨some 14,.ld false 1 (.tmp 13),none⟩,
         ⟨some 15,.conv .i64 (.tmp 14),none⟩,
         ⟨some 6,.mov (.tmp 15),none⟩])
        (.seq
        (.keep [1,2,4,5,6,9] [] seg163)
        (.reg [] [⟨some 34,.mov (.tmp 5),none⟩,
         ⟨some 35,.mov (.tmp 6),none⟩,
         ⟨some 36,.conv .u8 (.tmp 35),none⟩,
         ⟨some 37,.ixp 8 1 (.tmp 2) (.tmp 34),none⟩,
         ⟨none,.st 1 (.tmp 37) (.tmp 36),none⟩])))))
      (.reg [] [⟨some 38,.arith .add .i64 (.tmp 9) (.cst (.d (.int .i64 1))),none⟩,
       ⟨some 9,.mov (.tmp 38),none⟩]))))))))))
  (.seq
  (.reg [] [⟨some 39,.ld true 8 (.tmp 2),none⟩,
   ⟨none,.st 8 (.tmp 4) (.tmp 39),none⟩])
  .ret)))⟩
def jr142:AFun:=⟨13,2,[.cell 4 8 true,.tmp 5],
 (.seq
 (.reg [0,1] [⟨some 2,.cbx 0 8 (.tmp 0),none⟩,
  ⟨some 4,.alloc 1 [(.d (.int .u8 0)),(.d (.int .u8 0)),(.d (.int .u8 0)),(.d (.int .u8 0)),(.d (.int .u8 0)),(.d (.int .u8 0)),(.d (.int .u8 0)),(.d (.int .u8 0))],none⟩,
  ⟨some 5,.mov (.cst (.d (.int .i64 0))),none⟩])
 (.seq
  (.seq
  (.reg [] [⟨some 6,.mov (.tmp 1),none⟩,
   ⟨some 7,.len (.tmp 6),none⟩,
   ⟨some 8,.cmp .gtr (.tmp 7) (.cst (.d (.int .i64 400000))),none⟩])
  (.cond (.tmp 8)
   (.seq
   (.reg [] [⟨some 9,.build [(.d (.int .u8 0)),(.d (.int .u8 0)),(.d (.int .u8 0)),(.d (.int .u8 0)),(.d (.int .u8 0)),(.d (.int .u8 0)),(.d (.int .u8 0)),(.d (.int .u8 0))] [],none⟩,
    ⟨none,.st 8 (.tmp 4) (.tmp 9),none⟩,
    ⟨some 5,.mov (.cst (.d (.int .i64 26))),none⟩])
   .ret)
   .skip))
  (.seq
  (.reg [] [⟨some 10,.ld true 8 (.tmp 2),none⟩,
   ⟨some 11,.mov (.tmp 1),none⟩,
   ⟨some 12,.call 163 [(.tmp 10),(.tmp 11)],none⟩,
   ⟨none,.st 8 (.tmp 4) (.tmp 12),none⟩,
   ⟨some 5,.mov (.cst (.d (.int .i64 0))),none⟩])
  .ret)))⟩
structure Kx where
 k:Nat
 x:Int
theorem v163 {s : List Int} {j x i : Int} {C1 C2 : List AVal} (hs : ∀ b ∈ s, 0 ≤ b ∧ b ≤ 255) (hl : s.length ≤ 1048576) (hj : 0 ≤ j ∧ j ≤ 7) (hx : 0 ≤ x ∧ x ≤ 255) {Q : AExit → St → Prop} (hQ : Q .normal ⟨[(1, .d (.slice 1 (bys s))), (2, .ptr 0 0), (4, .ptr 1 0), (5, .d (.int .i64 j)), (6, .d (.int .i64 (sealJ j x s))), (9, .d (.int .i64 i))], [.box C1, .box C2]⟩) :
  vc Tryz.prog 40 seg163 ⟨[(1,.d (.slice 1 (bys s))),(2,.ptr 0 0),(4,.ptr 1 0),(5,.d (.int .i64 j)),(6,.d (.int .i64 (x))),(9,.d (.int .i64 i))],[.box C1,.box C2]⟩ Q:=by
 have hlen:=bys_len s
 unfold seg163
 rotate_left
 refine loop_st (fun p:Kx=>⟨[(1,.d (.slice 1 (bys s))),(2,.ptr 0 0),(4,.ptr 1 0),(5,.d (.int .i64 j)),(6,.d (.int .i64 (p.x))),(9,.d (.int .i64 i)),(16,.d (.slice 1 (bys s))),(17,.d (.int .i64 (((bys s).length:Nat):Int))),(18,.d (.int .i64 (p.k:Nat)))],[.box C1,.box C2]⟩) (fun p=>(p.k≤s.length∧0≤p.x∧p.x≤255)∧sealJ j x s=sealJ j p.x (s.drop p.k)) (fun p=>s.length - p.k) ⟨0,x⟩ rfl ⟨⟨Nat.zero_le _,hx⟩,rfl⟩ ?_
 rintro ⟨k,y⟩ ⟨⟨hk,hy⟩,hi⟩
 have hk:k≤s.length:=hk
 have hy:0≤y∧y≤255:=hy
 have hi:sealJ j x s=sealJ j y (s.drop k):=hi
 dsimp only
 by_cases hkn:k < s.length
 ·refine Exists.elim (get_lt s hkn) fun b hb=>?_
  have hb1:=bys_at hb
  have hbr:=wrap_b (hs b (List.mem_of_getElem? hb))
  have hm:=mul_b hj hy
  rw [drop_at hb,sealJ] at hi
  have ht:=tmod_b (n:=(2 * j+3) * y+IntKind.wrap .i64 b+j) (by omega)
  have fin:∃ a':Kx,(((a'.k≤s.length∧0≤a'.x∧a'.x≤255)∧sealJ j x s=sealJ j a'.x (s.drop a'.k))∧s.length - a'.k < s.length - k)∧(⟨[(1,.d (.slice 1 (bys s))),(2,.ptr 0 0),(4,.ptr 1 0),(5,.d (.int .i64 j)),(6,.d (.int .i64 (((2 * j+3) * y+IntKind.wrap .i64 b+j) % 256))),(9,.d (.int .i64 i)),(16,.d (.slice 1 (bys s))),(17,.d (.int .i64 (((bys s).length:Nat):Int))),(18,.d (.int .i64 ((k:Int)+1)))],[.box C1,.box C2]⟩:St)=⟨[(1,.d (.slice 1 (bys s))),(2,.ptr 0 0),(4,.ptr 1 0),(5,.d (.int .i64 j)),(6,.d (.int .i64 (a'.x))),(9,.d (.int .i64 i)),(16,.d (.slice 1 (bys s))),(17,.d (.int .i64 (((bys s).length:Nat):Int))),(18,.d (.int .i64 (a'.k:Nat)))],[.box C1,.box C2]⟩:=⟨⟨k+1,_⟩,⟨⟨⟨by show k+1≤_; omega,ht⟩,hi⟩,by show s.length - (k+1) < _; omega⟩,rfl⟩
  refine sd ?_
  refine b_lt (fun t1=>?_) (fun t1=>?_)
  refine ix_at hb1 ?_ ?_
  (show (0:Int)≤(↑k:Int); omega)
  refine ar_mul ?_ ?_
  refine an ?_ ?_
  (show (-9223372036854775808:Int)≤(2:Int) * j; omega)
  (show (2:Int) * j≤(9223372036854775807:Int); omega)
  refine ar_add ?_ ?_
  refine an ?_ ?_
  (show (-9223372036854775808:Int)≤(2:Int) * j+(3:Int); omega)
  (show (2:Int) * j+(3:Int)≤(9223372036854775807:Int); omega)
  refine ar_mul ?_ ?_
  refine an ?_ ?_
  (show (-9223372036854775808:Int)≤((2:Int) * j+(3:Int)) * y; omega)
  (show ((2:Int) * j+(3:Int)) * y≤(9223372036854775807:Int); omega)
  refine ca rfl ?_
  refine ar_add ?_ ?_
  refine an ?_ ?_
  (show (-9223372036854775808:Int)≤((2:Int) * j+(3:Int)) * y+IntKind.wrap IntKind.i64 b; omega)
  (show ((2:Int) * j+(3:Int)) * y+IntKind.wrap IntKind.i64 b≤(9223372036854775807:Int); omega)
  refine ar_add ?_ ?_
  refine an ?_ ?_
  (show (-9223372036854775808:Int)≤((2:Int) * j+(3:Int)) * y+IntKind.wrap IntKind.i64 b+j; omega)
  (show ((2:Int) * j+(3:Int)) * y+IntKind.wrap IntKind.i64 b+j≤(9223372036854775807:Int); omega)
  refine ar_rem ?_ ?_
  refine an ?_ ?_
  (show (0:Int)≤((2:Int) * j+(3:Int)) * y+IntKind.wrap IntKind.i64 b+j; omega)
  (show (1:Int)≤(256:Int); omega)
  refine ar_add ?_ ?_
  refine an ?_ ?_
  (show (-9223372036854775808:Int)≤(↑k:Int)+(1:Int); omega)
  (show (↑k:Int)+(1:Int)≤(9223372036854775807:Int); omega)
  rotate_left
  (exfalso; omega)
  all_goals exact fin
 ·have e:k=s.length:=by omega
  subst e
  rw [List.drop_eq_nil_of_le (Nat.le_refl _)] at hi
  have hi:sealJ j x s=y:=hi
  rw [hi] at hQ
  refine sd ?_
  refine b_lt (fun t1=>?_) (fun t1=>?_)
  (exfalso; omega)
  rotate_left
  all_goals exact hQ
structure K9 where
 n:Nat
 c:Ky
def sk (j:Int) (x:Int) (s:List Int):Int:=IntKind.wrap .u8 (sealJ j (IntKind.wrap .i64 x) s)
def sealK (k:Ky) (s:List Int):Ky:=⟨sk 0 k.a s,sk 1 k.b s,sk 2 k.c s,sk 3 k.d s,sk 4 k.e s,sk 5 k.f s,sk 6 k.g s,sk 7 k.h s⟩
def Mix (n:Nat) (c a b:Ky):Prop:=c.a=(bif Nat.blt 0 n then b.a else a.a)∧c.b=(bif Nat.blt 1 n then b.b else a.b)∧c.c=(bif Nat.blt 2 n then b.c else a.c)∧c.d=(bif Nat.blt 3 n then b.d else a.d)∧c.e=(bif Nat.blt 4 n then b.e else a.e)∧c.f=(bif Nat.blt 5 n then b.f else a.f)∧c.g=(bif Nat.blt 6 n then b.g else a.g)∧c.h=(bif Nat.blt 7 n then b.h else a.h)
theorem wrap_u8 {b:Int} (h:0≤b∧b≤255):0≤IntKind.wrap .i64 b∧IntKind.wrap .i64 b≤255:=wrap_b h
theorem c163 (k:Ky) (s:List Int) (hk:k.ok) (hs:∀ b∈s,0≤b∧b≤255) (hl:s.length≤1048576):CallDet Tryz.prog 163 [.d (.agg [.int .u8 k.a,.int .u8 k.b,.int .u8 k.c,.int .u8 k.d,.int .u8 k.e,.int .u8 k.f,.int .u8 k.g,.int .u8 k.h]),.d (.slice 1 (bys s))] [.agg [.int .u8 (sealK k s).a,.int .u8 (sealK k s).b,.int .u8 (sealK k s).c,.int .u8 (sealK k s).d,.int .u8 (sealK k s).e,.int .u8 (sealK k s).f,.int .u8 (sealK k s).g,.int .u8 (sealK k s).h]]:=by
 obtain ⟨q0,q1,q2,q3,q4,q5,q6,q7⟩:=hk
 refine call_of_vc (x:=jr163) (by kernel_rfl) rfl ?_
 rotate_left
 refine loop_st (fun p:K9=>⟨[(1,.d (.slice 1 (bys s))),(2,.ptr 0 0),(4,.ptr 1 0),(9,.d (.int .i64 ((p.n:Nat))))],[.box [.d (.int .u8 p.c.a),.d (.int .u8 p.c.b),.d (.int .u8 p.c.c),.d (.int .u8 p.c.d),.d (.int .u8 p.c.e),.d (.int .u8 p.c.f),.d (.int .u8 p.c.g),.d (.int .u8 p.c.h)],.box [.d (.int .u8 0),.d (.int .u8 0),.d (.int .u8 0),.d (.int .u8 0),.d (.int .u8 0),.d (.int .u8 0),.d (.int .u8 0),.d (.int .u8 0)]]⟩) (fun p=>p.n≤8∧Mix p.n p.c k (sealK k s)) (fun p=>8 - p.n) ⟨0,k⟩ rfl ⟨Nat.zero_le _,rfl,rfl,rfl,rfl,rfl,rfl,rfl,rfl⟩ ?_
 rintro ⟨n,c⟩ ⟨hn,hm⟩
 have hn:n≤8:=hn
 have hm:Mix n c k (sealK k s):=hm
 dsimp only
 obtain ⟨m0,m1,m2,m3,m4,m5,m6,m7⟩:=hm
 match n,hn,m0,m1,m2,m3,m4,m5,m6,m7 with
 | 0,_,m0,m1,m2,m3,m4,m5,m6,m7 =>
  have e:c.a=k.a:=m0
  have fin:∃ a':K9,((a'.n≤8∧Mix a'.n a'.c k (sealK k s))∧8 - a'.n < 8 - 0)∧(⟨[(1,.d (.slice 1 (bys s))),(2,.ptr 0 0),(4,.ptr 1 0),(9,.d (.int .i64 (((0:Nat):Int)+1)))],[.box [.d (.int .u8 ((sealK k s).a)),.d (.int .u8 (c.b)),.d (.int .u8 (c.c)),.d (.int .u8 (c.d)),.d (.int .u8 (c.e)),.d (.int .u8 (c.f)),.d (.int .u8 (c.g)),.d (.int .u8 (c.h))],.box [.d (.int .u8 0),.d (.int .u8 0),.d (.int .u8 0),.d (.int .u8 0),.d (.int .u8 0),.d (.int .u8 0),.d (.int .u8 0),.d (.int .u8 0)]]⟩:St)=⟨[(1,.d (.slice 1 (bys s))),(2,.ptr 0 0),(4,.ptr 1 0),(9,.d (.int .i64 ((a'.n:Nat))))],[.box [.d (.int .u8 a'.c.a),.d (.int .u8 a'.c.b),.d (.int .u8 a'.c.c),.d (.int .u8 a'.c.d),.d (.int .u8 a'.c.e),.d (.int .u8 a'.c.f),.d (.int .u8 a'.c.g),.d (.int .u8 a'.c.h)],.box [.d (.int .u8 0),.d (.int .u8 0),.d (.int .u8 0),.d (.int .u8 0),.d (.int .u8 0),.d (.int .u8 0),.d (.int .u8 0),.d (.int .u8 0)]]⟩:=⟨⟨1,⟨(sealK k s).a,c.b,c.c,c.d,c.e,c.f,c.g,c.h⟩⟩,⟨⟨by show 1≤8; decide,rfl,m1,m2,m3,m4,m5,m6,m7⟩,by show 8 - 1 < 8 - 0; decide⟩,rfl⟩
  refine sd ?_
  refine an ?_ ?_
  refine an ?_ ?_
  (show (0:Int)≤(↑(0:Nat):Int); omega)
  (show (↑(0:Nat):Int) < (↑(8:Nat):Int); omega)
  refine ca rfl ?_
  rotate_left
  refine v163 (j:=0) hs hl (by decide) (wrap_u8 (by rw [e]; exact q0)) ?_
  refine ca rfl ?_
  refine an ?_ ?_
  refine an ?_ ?_
  (show (0:Int)≤(0:Int); omega)
  (show (0:Int) < (↑(8:Nat):Int); omega)
  refine ar_add ?_ ?_
  refine an ?_ ?_
  (show (-9223372036854775808:Int)≤(↑(0:Nat):Int)+(1:Int); omega)
  (show (↑(0:Nat):Int)+(1:Int)≤(9223372036854775807:Int); omega)
  rotate_left
  rw [e]
  exact fin
 | 1,_,m0,m1,m2,m3,m4,m5,m6,m7 =>
  have e:c.b=k.b:=m1
  have fin:∃ a':K9,((a'.n≤8∧Mix a'.n a'.c k (sealK k s))∧8 - a'.n < 8 - 1)∧(⟨[(1,.d (.slice 1 (bys s))),(2,.ptr 0 0),(4,.ptr 1 0),(9,.d (.int .i64 (((1:Nat):Int)+1)))],[.box [.d (.int .u8 (c.a)),.d (.int .u8 ((sealK k s).b)),.d (.int .u8 (c.c)),.d (.int .u8 (c.d)),.d (.int .u8 (c.e)),.d (.int .u8 (c.f)),.d (.int .u8 (c.g)),.d (.int .u8 (c.h))],.box [.d (.int .u8 0),.d (.int .u8 0),.d (.int .u8 0),.d (.int .u8 0),.d (.int .u8 0),.d (.int .u8 0),.d (.int .u8 0),.d (.int .u8 0)]]⟩:St)=⟨[(1,.d (.slice 1 (bys s))),(2,.ptr 0 0),(4,.ptr 1 0),(9,.d (.int .i64 ((a'.n:Nat))))],[.box [.d (.int .u8 a'.c.a),.d (.int .u8 a'.c.b),.d (.int .u8 a'.c.c),.d (.int .u8 a'.c.d),.d (.int .u8 a'.c.e),.d (.int .u8 a'.c.f),.d (.int .u8 a'.c.g),.d (.int .u8 a'.c.h)],.box [.d (.int .u8 0),.d (.int .u8 0),.d (.int .u8 0),.d (.int .u8 0),.d (.int .u8 0),.d (.int .u8 0),.d (.int .u8 0),.d (.int .u8 0)]]⟩:=⟨⟨2,⟨c.a,(sealK k s).b,c.c,c.d,c.e,c.f,c.g,c.h⟩⟩,⟨⟨by show 2≤8; decide,m0,rfl,m2,m3,m4,m5,m6,m7⟩,by show 8 - 2 < 8 - 1; decide⟩,rfl⟩
  refine sd ?_
  refine an ?_ ?_
  refine an ?_ ?_
  (show (0:Int)≤(↑(1:Nat):Int); omega)
  (show (↑(1:Nat):Int) < (↑(8:Nat):Int); omega)
  refine ca rfl ?_
  rotate_left
  refine v163 (j:=1) hs hl (by decide) (wrap_u8 (by rw [e]; exact q1)) ?_
  refine ca rfl ?_
  refine an ?_ ?_
  refine an ?_ ?_
  (show (0:Int)≤(1:Int); omega)
  (show (1:Int) < (↑(8:Nat):Int); omega)
  refine ar_add ?_ ?_
  refine an ?_ ?_
  (show (-9223372036854775808:Int)≤(↑(1:Nat):Int)+(1:Int); omega)
  (show (↑(1:Nat):Int)+(1:Int)≤(9223372036854775807:Int); omega)
  rotate_left
  rw [e]
  exact fin
 | 2,_,m0,m1,m2,m3,m4,m5,m6,m7 =>
  have e:c.c=k.c:=m2
  have fin:∃ a':K9,((a'.n≤8∧Mix a'.n a'.c k (sealK k s))∧8 - a'.n < 8 - 2)∧(⟨[(1,.d (.slice 1 (bys s))),(2,.ptr 0 0),(4,.ptr 1 0),(9,.d (.int .i64 (((2:Nat):Int)+1)))],[.box [.d (.int .u8 (c.a)),.d (.int .u8 (c.b)),.d (.int .u8 ((sealK k s).c)),.d (.int .u8 (c.d)),.d (.int .u8 (c.e)),.d (.int .u8 (c.f)),.d (.int .u8 (c.g)),.d (.int .u8 (c.h))],.box [.d (.int .u8 0),.d (.int .u8 0),.d (.int .u8 0),.d (.int .u8 0),.d (.int .u8 0),.d (.int .u8 0),.d (.int .u8 0),.d (.int .u8 0)]]⟩:St)=⟨[(1,.d (.slice 1 (bys s))),(2,.ptr 0 0),(4,.ptr 1 0),(9,.d (.int .i64 ((a'.n:Nat))))],[.box [.d (.int .u8 a'.c.a),.d (.int .u8 a'.c.b),.d (.int .u8 a'.c.c),.d (.int .u8 a'.c.d),.d (.int .u8 a'.c.e),.d (.int .u8 a'.c.f),.d (.int .u8 a'.c.g),.d (.int .u8 a'.c.h)],.box [.d (.int .u8 0),.d (.int .u8 0),.d (.int .u8 0),.d (.int .u8 0),.d (.int .u8 0),.d (.int .u8 0),.d (.int .u8 0),.d (.int .u8 0)]]⟩:=⟨⟨3,⟨c.a,c.b,(sealK k s).c,c.d,c.e,c.f,c.g,c.h⟩⟩,⟨⟨by show 3≤8; decide,m0,m1,rfl,m3,m4,m5,m6,m7⟩,by show 8 - 3 < 8 - 2; decide⟩,rfl⟩
  refine sd ?_
  refine an ?_ ?_
  refine an ?_ ?_
  (show (0:Int)≤(↑(2:Nat):Int); omega)
  (show (↑(2:Nat):Int) < (↑(8:Nat):Int); omega)
  refine ca rfl ?_
  rotate_left
  refine v163 (j:=2) hs hl (by decide) (wrap_u8 (by rw [e]; exact q2)) ?_
  refine ca rfl ?_
  refine an ?_ ?_
  refine an ?_ ?_
  (show (0:Int)≤(2:Int); omega)
  (show (2:Int) < (↑(8:Nat):Int); omega)
  refine ar_add ?_ ?_
  refine an ?_ ?_
  (show (-9223372036854775808:Int)≤(↑(2:Nat):Int)+(1:Int); omega)
  (show (↑(2:Nat):Int)+(1:Int)≤(9223372036854775807:Int); omega)
  rotate_left
  rw [e]
  exact fin
 | 3,_,m0,m1,m2,m3,m4,m5,m6,m7 =>
  have e:c.d=k.d:=m3
  have fin:∃ a':K9,((a'.n≤8∧Mix a'.n a'.c k (sealK k s))∧8 - a'.n < 8 - 3)∧(⟨[(1,.d (.slice 1 (bys s))),(2,.ptr 0 0),(4,.ptr 1 0),(9,.d (.int .i64 (((3:Nat):Int)+1)))],[.box [.d (.int .u8 (c.a)),.d (.int .u8 (c.b)),.d (.int .u8 (c.c)),.d (.int .u8 ((sealK k s).d)),.d (.int .u8 (c.e)),.d (.int .u8 (c.f)),.d (.int .u8 (c.g)),.d (.int .u8 (c.h))],.box [.d (.int .u8 0),.d (.int .u8 0),.d (.int .u8 0),.d (.int .u8 0),.d (.int .u8 0),.d (.int .u8 0),.d (.int .u8 0),.d (.int .u8 0)]]⟩:St)=⟨[(1,.d (.slice 1 (bys s))),(2,.ptr 0 0),(4,.ptr 1 0),(9,.d (.int .i64 ((a'.n:Nat))))],[.box [.d (.int .u8 a'.c.a),.d (.int .u8 a'.c.b),.d (.int .u8 a'.c.c),.d (.int .u8 a'.c.d),.d (.int .u8 a'.c.e),.d (.int .u8 a'.c.f),.d (.int .u8 a'.c.g),.d (.int .u8 a'.c.h)],.box [.d (.int .u8 0),.d (.int .u8 0),.d (.int .u8 0),.d (.int .u8 0),.d (.int .u8 0),.d (.int .u8 0),.d (.int .u8 0),.d (.int .u8 0)]]⟩:=⟨⟨4,⟨c.a,c.b,c.c,(sealK k s).d,c.e,c.f,c.g,c.h⟩⟩,⟨⟨by show 4≤8; decide,m0,m1,m2,rfl,m4,m5,m6,m7⟩,by show 8 - 4 < 8 - 3; decide⟩,rfl⟩
  refine sd ?_
  refine an ?_ ?_
  refine an ?_ ?_
  (show (0:Int)≤(↑(3:Nat):Int); omega)
  (show (↑(3:Nat):Int) < (↑(8:Nat):Int); omega)
  refine ca rfl ?_
  rotate_left
  refine v163 (j:=3) hs hl (by decide) (wrap_u8 (by rw [e]; exact q3)) ?_
  refine ca rfl ?_
  refine an ?_ ?_
  refine an ?_ ?_
  (show (0:Int)≤(3:Int); omega)
  (show (3:Int) < (↑(8:Nat):Int); omega)
  refine ar_add ?_ ?_
  refine an ?_ ?_
  (show (-9223372036854775808:Int)≤(↑(3:Nat):Int)+(1:Int); omega)
  (show (↑(3:Nat):Int)+(1:Int)≤(9223372036854775807:Int); omega)
  rotate_left
  rw [e]
  exact fin
 | 4,_,m0,m1,m2,m3,m4,m5,m6,m7 =>
  have e:c.e=k.e:=m4
  have fin:∃ a':K9,((a'.n≤8∧Mix a'.n a'.c k (sealK k s))∧8 - a'.n < 8 - 4)∧(⟨[(1,.d (.slice 1 (bys s))),(2,.ptr 0 0),(4,.ptr 1 0),(9,.d (.int .i64 (((4:Nat):Int)+1)))],[.box [.d (.int .u8 (c.a)),.d (.int .u8 (c.b)),.d (.int .u8 (c.c)),.d (.int .u8 (c.d)),.d (.int .u8 ((sealK k s).e)),.d (.int .u8 (c.f)),.d (.int .u8 (c.g)),.d (.int .u8 (c.h))],.box [.d (.int .u8 0),.d (.int .u8 0),.d (.int .u8 0),.d (.int .u8 0),.d (.int .u8 0),.d (.int .u8 0),.d (.int .u8 0),.d (.int .u8 0)]]⟩:St)=⟨[(1,.d (.slice 1 (bys s))),(2,.ptr 0 0),(4,.ptr 1 0),(9,.d (.int .i64 ((a'.n:Nat))))],[.box [.d (.int .u8 a'.c.a),.d (.int .u8 a'.c.b),.d (.int .u8 a'.c.c),.d (.int .u8 a'.c.d),.d (.int .u8 a'.c.e),.d (.int .u8 a'.c.f),.d (.int .u8 a'.c.g),.d (.int .u8 a'.c.h)],.box [.d (.int .u8 0),.d (.int .u8 0),.d (.int .u8 0),.d (.int .u8 0),.d (.int .u8 0),.d (.int .u8 0),.d (.int .u8 0),.d (.int .u8 0)]]⟩:=⟨⟨5,⟨c.a,c.b,c.c,c.d,(sealK k s).e,c.f,c.g,c.h⟩⟩,⟨⟨by show 5≤8; decide,m0,m1,m2,m3,rfl,m5,m6,m7⟩,by show 8 - 5 < 8 - 4; decide⟩,rfl⟩
  refine sd ?_
  refine an ?_ ?_
  refine an ?_ ?_
  (show (0:Int)≤(↑(4:Nat):Int); omega)
  (show (↑(4:Nat):Int) < (↑(8:Nat):Int); omega)
  refine ca rfl ?_
  rotate_left
  refine v163 (j:=4) hs hl (by decide) (wrap_u8 (by rw [e]; exact q4)) ?_
  refine ca rfl ?_
  refine an ?_ ?_
  refine an ?_ ?_
  (show (0:Int)≤(4:Int); omega)
  (show (4:Int) < (↑(8:Nat):Int); omega)
  refine ar_add ?_ ?_
  refine an ?_ ?_
  (show (-9223372036854775808:Int)≤(↑(4:Nat):Int)+(1:Int); omega)
  (show (↑(4:Nat):Int)+(1:Int)≤(9223372036854775807:Int); omega)
  rotate_left
  rw [e]
  exact fin
 | 5,_,m0,m1,m2,m3,m4,m5,m6,m7 =>
  have e:c.f=k.f:=m5
  have fin:∃ a':K9,((a'.n≤8∧Mix a'.n a'.c k (sealK k s))∧8 - a'.n < 8 - 5)∧(⟨[(1,.d (.slice 1 (bys s))),(2,.ptr 0 0),(4,.ptr 1 0),(9,.d (.int .i64 (((5:Nat):Int)+1)))],[.box [.d (.int .u8 (c.a)),.d (.int .u8 (c.b)),.d (.int .u8 (c.c)),.d (.int .u8 (c.d)),.d (.int .u8 (c.e)),.d (.int .u8 ((sealK k s).f)),.d (.int .u8 (c.g)),.d (.int .u8 (c.h))],.box [.d (.int .u8 0),.d (.int .u8 0),.d (.int .u8 0),.d (.int .u8 0),.d (.int .u8 0),.d (.int .u8 0),.d (.int .u8 0),.d (.int .u8 0)]]⟩:St)=⟨[(1,.d (.slice 1 (bys s))),(2,.ptr 0 0),(4,.ptr 1 0),(9,.d (.int .i64 ((a'.n:Nat))))],[.box [.d (.int .u8 a'.c.a),.d (.int .u8 a'.c.b),.d (.int .u8 a'.c.c),.d (.int .u8 a'.c.d),.d (.int .u8 a'.c.e),.d (.int .u8 a'.c.f),.d (.int .u8 a'.c.g),.d (.int .u8 a'.c.h)],.box [.d (.int .u8 0),.d (.int .u8 0),.d (.int .u8 0),.d (.int .u8 0),.d (.int .u8 0),.d (.int .u8 0),.d (.int .u8 0),.d (.int .u8 0)]]⟩:=⟨⟨6,⟨c.a,c.b,c.c,c.d,c.e,(sealK k s).f,c.g,c.h⟩⟩,⟨⟨by show 6≤8; decide,m0,m1,m2,m3,m4,rfl,m6,m7⟩,by show 8 - 6 < 8 - 5; decide⟩,rfl⟩
  refine sd ?_
  refine an ?_ ?_
  refine an ?_ ?_
  (show (0:Int)≤(↑(5:Nat):Int); omega)
  (show (↑(5:Nat):Int) < (↑(8:Nat):Int); omega)
  refine ca rfl ?_
  rotate_left
  refine v163 (j:=5) hs hl (by decide) (wrap_u8 (by rw [e]; exact q5)) ?_
  refine ca rfl ?_
  refine an ?_ ?_
  refine an ?_ ?_
  (show (0:Int)≤(5:Int); omega)
  (show (5:Int) < (↑(8:Nat):Int); omega)
  refine ar_add ?_ ?_
  refine an ?_ ?_
  (show (-9223372036854775808:Int)≤(↑(5:Nat):Int)+(1:Int); omega)
  (show (↑(5:Nat):Int)+(1:Int)≤(9223372036854775807:Int); omega)
  rotate_left
  rw [e]
  exact fin
 | 6,_,m0,m1,m2,m3,m4,m5,m6,m7 =>
  have e:c.g=k.g:=m6
  have fin:∃ a':K9,((a'.n≤8∧Mix a'.n a'.c k (sealK k s))∧8 - a'.n < 8 - 6)∧(⟨[(1,.d (.slice 1 (bys s))),(2,.ptr 0 0),(4,.ptr 1 0),(9,.d (.int .i64 (((6:Nat):Int)+1)))],[.box [.d (.int .u8 (c.a)),.d (.int .u8 (c.b)),.d (.int .u8 (c.c)),.d (.int .u8 (c.d)),.d (.int .u8 (c.e)),.d (.int .u8 (c.f)),.d (.int .u8 ((sealK k s).g)),.d (.int .u8 (c.h))],.box [.d (.int .u8 0),.d (.int .u8 0),.d (.int .u8 0),.d (.int .u8 0),.d (.int .u8 0),.d (.int .u8 0),.d (.int .u8 0),.d (.int .u8 0)]]⟩:St)=⟨[(1,.d (.slice 1 (bys s))),(2,.ptr 0 0),(4,.ptr 1 0),(9,.d (.int .i64 ((a'.n:Nat))))],[.box [.d (.int .u8 a'.c.a),.d (.int .u8 a'.c.b),.d (.int .u8 a'.c.c),.d (.int .u8 a'.c.d),.d (.int .u8 a'.c.e),.d (.int .u8 a'.c.f),.d (.int .u8 a'.c.g),.d (.int .u8 a'.c.h)],.box [.d (.int .u8 0),.d (.int .u8 0),.d (.int .u8 0),.d (.int .u8 0),.d (.int .u8 0),.d (.int .u8 0),.d (.int .u8 0),.d (.int .u8 0)]]⟩:=⟨⟨7,⟨c.a,c.b,c.c,c.d,c.e,c.f,(sealK k s).g,c.h⟩⟩,⟨⟨by show 7≤8; decide,m0,m1,m2,m3,m4,m5,rfl,m7⟩,by show 8 - 7 < 8 - 6; decide⟩,rfl⟩
  refine sd ?_
  refine an ?_ ?_
  refine an ?_ ?_
  (show (0:Int)≤(↑(6:Nat):Int); omega)
  (show (↑(6:Nat):Int) < (↑(8:Nat):Int); omega)
  refine ca rfl ?_
  rotate_left
  refine v163 (j:=6) hs hl (by decide) (wrap_u8 (by rw [e]; exact q6)) ?_
  refine ca rfl ?_
  refine an ?_ ?_
  refine an ?_ ?_
  (show (0:Int)≤(6:Int); omega)
  (show (6:Int) < (↑(8:Nat):Int); omega)
  refine ar_add ?_ ?_
  refine an ?_ ?_
  (show (-9223372036854775808:Int)≤(↑(6:Nat):Int)+(1:Int); omega)
  (show (↑(6:Nat):Int)+(1:Int)≤(9223372036854775807:Int); omega)
  rotate_left
  rw [e]
  exact fin
 | 7,_,m0,m1,m2,m3,m4,m5,m6,m7 =>
  have e:c.h=k.h:=m7
  have fin:∃ a':K9,((a'.n≤8∧Mix a'.n a'.c k (sealK k s))∧8 - a'.n < 8 - 7)∧(⟨[(1,.d (.slice 1 (bys s))),(2,.ptr 0 0),(4,.ptr 1 0),(9,.d (.int .i64 (((7:Nat):Int)+1)))],[.box [.d (.int .u8 (c.a)),.d (.int .u8 (c.b)),.d (.int .u8 (c.c)),.d (.int .u8 (c.d)),.d (.int .u8 (c.e)),.d (.int .u8 (c.f)),.d (.int .u8 (c.g)),.d (.int .u8 ((sealK k s).h))],.box [.d (.int .u8 0),.d (.int .u8 0),.d (.int .u8 0),.d (.int .u8 0),.d (.int .u8 0),.d (.int .u8 0),.d (.int .u8 0),.d (.int .u8 0)]]⟩:St)=⟨[(1,.d (.slice 1 (bys s))),(2,.ptr 0 0),(4,.ptr 1 0),(9,.d (.int .i64 ((a'.n:Nat))))],[.box [.d (.int .u8 a'.c.a),.d (.int .u8 a'.c.b),.d (.int .u8 a'.c.c),.d (.int .u8 a'.c.d),.d (.int .u8 a'.c.e),.d (.int .u8 a'.c.f),.d (.int .u8 a'.c.g),.d (.int .u8 a'.c.h)],.box [.d (.int .u8 0),.d (.int .u8 0),.d (.int .u8 0),.d (.int .u8 0),.d (.int .u8 0),.d (.int .u8 0),.d (.int .u8 0),.d (.int .u8 0)]]⟩:=⟨⟨8,⟨c.a,c.b,c.c,c.d,c.e,c.f,c.g,(sealK k s).h⟩⟩,⟨⟨by show 8≤8; decide,m0,m1,m2,m3,m4,m5,m6,rfl⟩,by show 8 - 8 < 8 - 7; decide⟩,rfl⟩
  refine sd ?_
  refine an ?_ ?_
  refine an ?_ ?_
  (show (0:Int)≤(↑(7:Nat):Int); omega)
  (show (↑(7:Nat):Int) < (↑(8:Nat):Int); omega)
  refine ca rfl ?_
  rotate_left
  refine v163 (j:=7) hs hl (by decide) (wrap_u8 (by rw [e]; exact q7)) ?_
  refine ca rfl ?_
  refine an ?_ ?_
  refine an ?_ ?_
  (show (0:Int)≤(7:Int); omega)
  (show (7:Int) < (↑(8:Nat):Int); omega)
  refine ar_add ?_ ?_
  refine an ?_ ?_
  (show (-9223372036854775808:Int)≤(↑(7:Nat):Int)+(1:Int); omega)
  (show (↑(7:Nat):Int)+(1:Int)≤(9223372036854775807:Int); omega)
  rotate_left
  rw [e]
  exact fin
 | 8,_,m0,m1,m2,m3,m4,m5,m6,m7 =>
  have e:resV [.agg [.int .u8 c.a,.int .u8 c.b,.int .u8 c.c,.int .u8 c.d,.int .u8 c.e,.int .u8 c.f,.int .u8 c.g,.int .u8 c.h]]=resV [.agg [.int .u8 (sealK k s).a,.int .u8 (sealK k s).b,.int .u8 (sealK k s).c,.int .u8 (sealK k s).d,.int .u8 (sealK k s).e,.int .u8 (sealK k s).f,.int .u8 (sealK k s).g,.int .u8 (sealK k s).h]]:=by
   rw [(show c.a=(sealK k s).a from m0),(show c.b=(sealK k s).b from m1),(show c.c=(sealK k s).c from m2),(show c.d=(sealK k s).d from m3),(show c.e=(sealK k s).e from m4),(show c.f=(sealK k s).f from m5),(show c.g=(sealK k s).g from m6),(show c.h=(sealK k s).h from m7)]
  refine sd ?_
  assumption
 | _+9,hn,_,_,_,_,_,_,_,_=>exact absurd hn (by omega)
theorem c142 (k:Ky) (s:List Int) (hk:k.ok) (hs:∀ b∈s,0≤b∧b≤255) (hl:s.length≤400000):CallDet Tryz.prog 142 [.d (.agg [.int .u8 k.a,.int .u8 k.b,.int .u8 k.c,.int .u8 k.d,.int .u8 k.e,.int .u8 k.f,.int .u8 k.g,.int .u8 k.h]),.d (.slice 1 (bys s))] [.agg [.int .u8 (sealK k s).a,.int .u8 (sealK k s).b,.int .u8 (sealK k s).c,.int .u8 (sealK k s).d,.int .u8 (sealK k s).e,.int .u8 (sealK k s).f,.int .u8 (sealK k s).g,.int .u8 (sealK k s).h],.int .i64 0]:=by
 have hlen:=bys_len s
 have c163_:=c163 k s hk hs (by omega)
 refine call_of_vc (x:=jr142) (by kernel_rfl) rfl ?_
 refine sd ?_
 refine b_lt (fun t1=>?_) (fun t1=>?_)
 (exfalso; omega)
 refine ca c163_ ?_
 exact rfl
end Vc
