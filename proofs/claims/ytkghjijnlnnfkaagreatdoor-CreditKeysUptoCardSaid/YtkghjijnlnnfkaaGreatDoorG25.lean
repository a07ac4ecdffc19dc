import Derived.Test.YtkghjijnlnnfkaaGreatDoorG16
set_option linter.unusedSectionVars false
set_option linter.unusedVariables false
set_option linter.unusedSimpArgs false
set_option maxRecDepth 10000
set_option maxHeartbeats 4000000
namespace Vc
open Go Go.Proofs
def jr44:AFun:=⟨28,5,[.cell 2 16 true],
 (.seq
 (.reg [0,1] [⟨some 1,.cbx 0 10 (.tmp 0),none⟩,
  ⟨some 2,.alloc 1 [(.d (.int .u8 0)),(.d (.int .u8 0)),(.d (.int .u8 0)),(.d (.int .u8 0)),(.d (.int .u8 0)),(.d (.int .u8 0)),(.d (.int .u8 0)),(.d (.int .u8 0)),(.d (.int .u8 0)),(.d (.int .u8 0)),(.d (.int .u8 0)),(.d (.int .u8 0)),(.d (.int .u8 0)),(.d (.int .u8 0)),(.d (.int .u8 0)),(.d (.int .u8 0))],none⟩])
 (.seq
  (.regd [2] [⟨some 6,.fad 0 (.tmp 1),none⟩,
   ⟨some 7,.ld false 1 (.tmp 6),none⟩,
   ⟨some 8,.calln 2 5 1 110 [(.tmp 7),(.cst (.d (.int .i64 4)))],none⟩,
   ⟨some 9,.fad 1 (.tmp 1),none⟩,
   ⟨some 10,.ld false 1 (.tmp 9),none⟩,
   ⟨some 11,.call 110 [(.tmp 10),(.cst (.d (.int .i64 4)))],none⟩,
   ⟨some 12,.app 2 5 1 1 (.tmp 8) (.tmp 11),none⟩,
   ⟨some 3,.mov (.tmp 12),none⟩] [(0,3),(1,3),(2,3),(0,4),(1,4),(2,4)])
  (.seq
  (.reg [3] [⟨some 13,.mov (.tmp 3),none⟩,
   ⟨some 14,.fad 2 (.tmp 1),none⟩,
   ⟨some 15,.sla 8 (.tmp 14) none none,none⟩,
   ⟨some 16,.app 3 5 1 1 (.tmp 13) (.tmp 15),none⟩,
   ⟨some 3,.mov (.tmp 16),none⟩])
  (.seq
   (.reg [4] [⟨some 4,.alloc 4 [(.d (.int .u8 0)),(.d (.int .u8 0)),(.d (.int .u8 0)),(.d (.int .u8 0)),(.d (.int .u8 0)),(.d (.int .u8 0)),(.d (.int .u8 0)),(.d (.int .u8 0)),(.d (.int .u8 0)),(.d (.int .u8 0)),(.d (.int .u8 0)),(.d (.int .u8 0)),(.d (.int .u8 0)),(.d (.int .u8 0)),(.d (.int .u8 0)),(.d (.int .u8 0))],none⟩])
   (.seq
   (.seq
    (.reg [] [⟨some 5,.mov (.cst (.d (.int .i64 0))),none⟩])
    (.post [2,4] [0,1,2,3,4]
    (.block 0
     (.keep [2,3,4,5] [0,1,2,3,4]
     (.loop
      (.post [2,3,4,5] []
      (.seq
       (.seq
       (.reg [] [⟨some 17,.mov (.tmp 5),none⟩,
        ⟨some 18,.cmp .lss (.tmp 17) (.cst (.d (.int .i64 16))),none⟩])
       (.cond (.tmp 18)
        .skip
        (.exit 0)))
       (.seq
       (.block 1
        (.reg [] [⟨some 21,.mov (.tmp 5),none⟩,
         ⟨some 22,.mov (.tmp 3),none⟩,
         ⟨some 23,.mov (.tmp 5),none⟩,
         ⟨some 24,.ixa 1 (.tmp 22) (.tmp 23),none⟩,
         ⟨some 25,.ld false 1 (.tmp 24),none⟩,
         ⟨some 26,.ixp 16 1 (.tmp 4) (.tmp 21),none⟩,
         ⟨none,.st 1 (.tmp 26) (.tmp 25),none⟩]))
       (.reg [] [⟨some 19,.mov (.tmp 5),none⟩,
        ⟨some 20,.arith .add .i64 (.tmp 19) (.cst (.d (.int .i64 1))),none⟩,
        ⟨some 5,.mov (.tmp 20),none⟩])))))))))
   (.seq
    (.reg [] [⟨some 27,.ld true 16 (.tmp 4),none⟩,
     ⟨none,.st 16 (.tmp 2) (.tmp 27),none⟩])
    .ret))))))⟩
structure K16 where
 n:Nat
 c:Ky
 d:Ky
def Mix16 (n:Nat) (c d a b:Ky):Prop:=c.a=(bif Nat.blt 0 n then a.a else 0)∧c.b=(bif Nat.blt 1 n then a.b else 0)∧c.c=(bif Nat.blt 2 n then a.c else 0)∧c.d=(bif Nat.blt 3 n then a.d else 0)∧c.e=(bif Nat.blt 4 n then a.e else 0)∧c.f=(bif Nat.blt 5 n then a.f else 0)∧c.g=(bif Nat.blt 6 n then a.g else 0)∧c.h=(bif Nat.blt 7 n then a.h else 0)∧d.a=(bif Nat.blt 8 n then b.a else 0)∧d.b=(bif Nat.blt 9 n then b.b else 0)∧d.c=(bif Nat.blt 10 n then b.c else 0)∧d.d=(bif Nat.blt 11 n then b.d else 0)∧d.e=(bif Nat.blt 12 n then b.e else 0)∧d.f=(bif Nat.blt 13 n then b.f else 0)∧d.g=(bif Nat.blt 14 n then b.g else 0)∧d.h=(bif Nat.blt 15 n then b.h else 0)
theorem c44 (n m:Int) (q:Ky) (h:0≤n∧n≤1000000000) (h2:0≤m∧m≤1000000000):CallDet Tryz.prog 44 [.d (.agg [.int .i64 n,.int .i64 m,.int .u8 q.a,.int .u8 q.b,.int .u8 q.c,.int .u8 q.d,.int .u8 q.e,.int .u8 q.f,.int .u8 q.g,.int .u8 q.h])] [.agg [.int .u8 (n / 16777216 % 256),.int .u8 (n / 65536 % 256),.int .u8 (n / 256 % 256),.int .u8 (n % 256),.int .u8 (m / 16777216 % 256),.int .u8 (m / 65536 % 256),.int .u8 (m / 256 % 256),.int .u8 (m % 256),.int .u8 (q.a),.int .u8 (q.b),.int .u8 (q.c),.int .u8 (q.d),.int .u8 (q.e),.int .u8 (q.f),.int .u8 (q.g),.int .u8 (q.h)]]:=by
 have c110r_:=c110r n h
 have c110_:=c110 m h2
 refine call_of_vc (x:=jr44) (by kernel_rfl) rfl ?_
 refine ca (c110r_) ?_
 refine ca c110_ ?_
 refine sd ?_
 refine an ?_ ?_
 refine an ?_ ?_
 exact rfl
 refine an ?_ ?_
 exact rfl
 refine an ?_ ?_
 exact rfl
 refine an ?_ ?_
 (show ((1:Nat)+(1:Nat)+(1:Nat)+(1:Nat)+((1:Nat)+(1:Nat)+(1:Nat)+(1:Nat))) * (1:Nat)≤(2:Nat) ^ (47:Nat); omega)
 (show (1:Nat)+(1:Nat)+(1:Nat)+(1:Nat)+((1:Nat)+(1:Nat)+(1:Nat)+(1:Nat))≤(2:Nat) ^ (47:Nat); omega)
 refine an ?_ ?_
 refine an ?_ ?_
 (show (0:Int)≤(0:Int); omega)
 refine an ?_ ?_
 (show (0:Int)≤(↑(8:Nat):Int); omega)
 refine an ?_ ?_
 (show (↑(8:Nat):Int)≤(↑(8:Nat):Int); omega)
 (show (0:Nat)+(2:Nat)+(8:Nat)≤(1:Nat)+(1:Nat)+(1:Nat)+(1:Nat)+(1:Nat)+(1:Nat)+(1:Nat)+(1:Nat)+(1:Nat)+(1:Nat); omega)
 refine sd ?_
 refine an ?_ ?_
 refine an ?_ ?_
 exact rfl
 refine an ?_ ?_
 exact rfl
 refine an ?_ ?_
 exact rfl
 refine an ?_ ?_
 (show ((1:Nat)+(1:Nat)+(1:Nat)+(1:Nat)+(1:Nat)+(1:Nat)+(1:Nat)+(1:Nat)+((1:Nat)+(1:Nat)+(1:Nat)+(1:Nat)+(1:Nat)+(1:Nat)+(1:Nat)+(1:Nat))) * (1:Nat)≤(2:Nat) ^ (47:Nat); omega)
 (show (1:Nat)+(1:Nat)+(1:Nat)+(1:Nat)+(1:Nat)+(1:Nat)+(1:Nat)+(1:Nat)+((1:Nat)+(1:Nat)+(1:Nat)+(1:Nat)+(1:Nat)+(1:Nat)+(1:Nat)+(1:Nat))≤(2:Nat) ^ (47:Nat); omega)
 rotate_left
 refine loop_st (fun p:K16=>⟨[(2,.ptr 1 0),(3,.sl 2 16),(4,.ptr 4 0),(5,.d (.int .i64 ((p.n:Nat))))],[.none,.box [.d (.int .u8 0),.d (.int .u8 0),.d (.int .u8 0),.d (.int .u8 0),.d (.int .u8 0),.d (.int .u8 0),.d (.int .u8 0),.d (.int .u8 0),.d (.int .u8 0),.d (.int .u8 0),.d (.int .u8 0),.d (.int .u8 0),.d (.int .u8 0),.d (.int .u8 0),.d (.int .u8 0),.d (.int .u8 0)],.row 5 1 [.int .u8 (n / 16777216 % 256),.int .u8 (n / 65536 % 256),.int .u8 (n / 256 % 256),.int .u8 (n % 256),.int .u8 (m / 16777216 % 256),.int .u8 (m / 65536 % 256),.int .u8 (m / 256 % 256),.int .u8 (m % 256),.int .u8 (q.a),.int .u8 (q.b),.int .u8 (q.c),.int .u8 (q.d),.int .u8 (q.e),.int .u8 (q.f),.int .u8 (q.g),.int .u8 (q.h)] false,.none,.box [.d (.int .u8 (p.c.a)),.d (.int .u8 (p.c.b)),.d (.int .u8 (p.c.c)),.d (.int .u8 (p.c.d)),.d (.int .u8 (p.c.e)),.d (.int .u8 (p.c.f)),.d (.int .u8 (p.c.g)),.d (.int .u8 (p.c.h)),.d (.int .u8 (p.d.a)),.d (.int .u8 (p.d.b)),.d (.int .u8 (p.d.c)),.d (.int .u8 (p.d.d)),.d (.int .u8 (p.d.e)),.d (.int .u8 (p.d.f)),.d (.int .u8 (p.d.g)),.d (.int .u8 (p.d.h))]]⟩) (fun p=>p.n≤16∧Mix16 p.n p.c p.d ⟨n / 16777216 % 256,n / 65536 % 256,n / 256 % 256,n % 256,m / 16777216 % 256,m / 65536 % 256,m / 256 % 256,m % 256⟩ q) (fun p=>16 - p.n) ⟨0,⟨0,0,0,0,0,0,0,0⟩,⟨0,0,0,0,0,0,0,0⟩⟩ rfl ⟨Nat.zero_le _,rfl,rfl,rfl,rfl,rfl,rfl,rfl,rfl,rfl,rfl,rfl,rfl,rfl,rfl,rfl,rfl⟩ ?_
 clear c110r_ c110_
 rintro ⟨k,c,d⟩ ⟨hk,hm⟩
 have hk:k≤16:=hk
 have hm:Mix16 k c d ⟨n / 16777216 % 256,n / 65536 % 256,n / 256 % 256,n % 256,m / 16777216 % 256,m / 65536 % 256,m / 256 % 256,m % 256⟩ q:=hm
 dsimp only
 obtain ⟨m0,m1,m2,m3,m4,m5,m6,m7,m8,m9,m10,m11,m12,m13,m14,m15⟩:=hm
 match k,hk,m0,m1,m2,m3,m4,m5,m6,m7,m8,m9,m10,m11,m12,m13,m14,m15 with
 | 0,_,m0,m1,m2,m3,m4,m5,m6,m7,m8,m9,m10,m11,m12,m13,m14,m15 =>
  have fin:∃ a':K16,((a'.n≤16∧Mix16 a'.n a'.c a'.d ⟨n / 16777216 % 256,n / 65536 % 256,n / 256 % 256,n % 256,m / 16777216 % 256,m / 65536 % 256,m / 256 % 256,m % 256⟩ q)∧16 - a'.n < 16 - 0)∧(⟨[(2,.ptr 1 0),(3,.sl 2 16),(4,.ptr 4 0),(5,.d (.int .i64 (((0:Nat):Int)+1)))],[.none,.box [.d (.int .u8 0),.d (.int .u8 0),.d (.int .u8 0),.d (.int .u8 0),.d (.int .u8 0),.d (.int .u8 0),.d (.int .u8 0),.d (.int .u8 0),.d (.int .u8 0),.d (.int .u8 0),.d (.int .u8 0),.d (.int .u8 0),.d (.int .u8 0),.d (.int .u8 0),.d (.int .u8 0),.d (.int .u8 0)],.row 5 1 [.int .u8 (n / 16777216 % 256),.int .u8 (n / 65536 % 256),.int .u8 (n / 256 % 256),.int .u8 (n % 256),.int .u8 (m / 16777216 % 256),.int .u8 (m / 65536 % 256),.int .u8 (m / 256 % 256),.int .u8 (m % 256),.int .u8 (q.a),.int .u8 (q.b),.int .u8 (q.c),.int .u8 (q.d),.int .u8 (q.e),.int .u8 (q.f),.int .u8 (q.g),.int .u8 (q.h)] false,.none,.box [.d (.int .u8 (n / 16777216 % 256)),.d (.int .u8 (c.b)),.d (.int .u8 (c.c)),.d (.int .u8 (c.d)),.d (.int .u8 (c.e)),.d (.int .u8 (c.f)),.d (.int .u8 (c.g)),.d (.int .u8 (c.h)),.d (.int .u8 (d.a)),.d (.int .u8 (d.b)),.d (.int .u8 (d.c)),.d (.int .u8 (d.d)),.d (.int .u8 (d.e)),.d (.int .u8 (d.f)),.d (.int .u8 (d.g)),.d (.int .u8 (d.h))]]⟩:St)=⟨[(2,.ptr 1 0),(3,.sl 2 16),(4,.ptr 4 0),(5,.d (.int .i64 ((a'.n:Nat))))],[.none,.box [.d (.int .u8 0),.d (.int .u8 0),.d (.int .u8 0),.d (.int .u8 0),.d (.int .u8 0),.d (.int .u8 0),.d (.int .u8 0),.d (.int .u8 0),.d (.int .u8 0),.d (.int .u8 0),.d (.int .u8 0),.d (.int .u8 0),.d (.int .u8 0),.d (.int .u8 0),.d (.int .u8 0),.d (.int .u8 0)],.row 5 1 [.int .u8 (n / 16777216 % 256),.int .u8 (n / 65536 % 256),.int .u8 (n / 256 % 256),.int .u8 (n % 256),.int .u8 (m / 16777216 % 256),.int .u8 (m / 65536 % 256),.int .u8 (m / 256 % 256),.int .u8 (m % 256),.int .u8 (q.a),.int .u8 (q.b),.int .u8 (q.c),.int .u8 (q.d),.int .u8 (q.e),.int .u8 (q.f),.int .u8 (q.g),.int .u8 (q.h)] false,.none,.box [.d (.int .u8 (a'.c.a)),.d (.int .u8 (a'.c.b)),.d (.int .u8 (a'.c.c)),.d (.int .u8 (a'.c.d)),.d (.int .u8 (a'.c.e)),.d (.int .u8 (a'.c.f)),.d (.int .u8 (a'.c.g)),.d (.int .u8 (a'.c.h)),.d (.int .u8 (a'.d.a)),.d (.int .u8 (a'.d.b)),.d (.int .u8 (a'.d.c)),.d (.int .u8 (a'.d.d)),.d (.int .u8 (a'.d.e)),.d (.int .u8 (a'.d.f)),.d (.int .u8 (a'.d.g)),.d (.int .u8 (a'.d.h))]]⟩:=⟨⟨1,⟨n / 16777216 % 256,c.b,c.c,c.d,c.e,c.f,c.g,c.h⟩,⟨d.a,d.b,d.c,d.d,d.e,d.f,d.g,d.h⟩⟩,⟨⟨by show 1≤16; decide,rfl,m1,m2,m3,m4,m5,m6,m7,m8,m9,m10,m11,m12,m13,m14,m15⟩,by show 16 - 1 < 16 - 0; decide⟩,rfl⟩
  have hz:([.int .u8 (n / 16777216 % 256),.int .u8 (n / 65536 % 256),.int .u8 (n / 256 % 256),.int .u8 (n % 256),.int .u8 (m / 16777216 % 256),.int .u8 (m / 65536 % 256),.int .u8 (m / 256 % 256),.int .u8 (m % 256),.int .u8 (q.a),.int .u8 (q.b),.int .u8 (q.c),.int .u8 (q.d),.int .u8 (q.e),.int .u8 (q.f),.int .u8 (q.g),.int .u8 (q.h)]:List Data)[(((0:Nat):Int)).toNat]?=some (.int .u8 (n / 16777216 % 256)):=rfl
  refine sd ?_
  refine an ?_ ?_
  refine an ?_ ?_
  exact rfl
  refine an ?_ ?_
  exact rfl
  refine an ?_ ?_
  (show (0:Int)≤(↑(0:Nat):Int); omega)
  (show (↑(0:Nat):Int) < (↑(16:Nat):Int); omega)
  refine sd ?_
  refine ca hz ?_
  refine an ?_ ?_
  refine an ?_ ?_
  (show (0:Int)≤(↑(0:Nat):Int); omega)
  (show (↑(0:Nat):Int) < (↑(16:Nat):Int); omega)
  refine ar_add ?_ ?_
  refine an ?_ ?_
  (show (-9223372036854775808:Int)≤(↑(0:Nat):Int)+(1:Int); omega)
  (show (↑(0:Nat):Int)+(1:Int)≤(9223372036854775807:Int); omega)
  rotate_left
  all_goals exact fin
 | 1,_,m0,m1,m2,m3,m4,m5,m6,m7,m8,m9,m10,m11,m12,m13,m14,m15 =>
  have fin:∃ a':K16,((a'.n≤16∧Mix16 a'.n a'.c a'.d ⟨n / 16777216 % 256,n / 65536 % 256,n / 256 % 256,n % 256,m / 16777216 % 256,m / 65536 % 256,m / 256 % 256,m % 256⟩ q)∧16 - a'.n < 16 - 1)∧(⟨[(2,.ptr 1 0),(3,.sl 2 16),(4,.ptr 4 0),(5,.d (.int .i64 (((1:Nat):Int)+1)))],[.none,.box [.d (.int .u8 0),.d (.int .u8 0),.d (.int .u8 0),.d (.int .u8 0),.d (.int .u8 0),.d (.int .u8 0),.d (.int .u8 0),.d (.int .u8 0),.d (.int .u8 0),.d (.int .u8 0),.d (.int .u8 0),.d (.int .u8 0),.d (.int .u8 0),.d (.int .u8 0),.d (.int .u8 0),.d (.int .u8 0)],.row 5 1 [.int .u8 (n / 16777216 % 256),.int .u8 (n / 65536 % 256),.int .u8 (n / 256 % 256),.int .u8 (n % 256),.int .u8 (m / 16777216 % 256),.int .u8 (m / 65536 % 256),.int .u8 (m / 256 % 256),.int .u8 (m % 256),.int .u8 (q.a),.int .u8 (q.b),.int .u8 (q.c),.int .u8 (q.d),.int .u8 (q.e),.int .u8 (q.f),.int .u8 (q.g),.int .u8 (q.h)] false,.none,.box [.d (.int .u8 (c.a)),.d (.int .u8 (n / 65536 % 256)),.d (.int .u8 (c.c)),.d (.int .u8 (c.d)),.d (.int .u8 (c.e)),.d (.int .u8 (c.f)),.d (.int .u8 (c.g)),.d (.int .u8 (c.h)),.d (.int .u8 (d.a)),.d (.int .u8 (d.b)),.d (.int .u8 (d.c)),.d (.int .u8 (d.d)),.d (.int .u8 (d.e)),.d (.int .u8 (d.f)),.d (.int .u8 (d.g)),.d (.int .u8 (d.h))]]⟩:St)=⟨[(2,.ptr 1 0),(3,.sl 2 16),(4,.ptr 4 0),(5,.d (.int .i64 ((a'.n:Nat))))],[.none,.box [.d (.int .u8 0),.d (.int .u8 0),.d (.int .u8 0),.d (.int .u8 0),.d (.int .u8 0),.d (.int .u8 0),.d (.int .u8 0),.d (.int .u8 0),.d (.int .u8 0),.d (.int .u8 0),.d (.int .u8 0),.d (.int .u8 0),.d (.int .u8 0),.d (.int .u8 0),.d (.int .u8 0),.d (.int .u8 0)],.row 5 1 [.int .u8 (n / 16777216 % 256),.int .u8 (n / 65536 % 256),.int .u8 (n / 256 % 256),.int .u8 (n % 256),.int .u8 (m / 16777216 % 256),.int .u8 (m / 65536 % 256),.int .u8 (m / 256 % 256),.int .u8 (m % 256),.int .u8 (q.a),.int .u8 (q.b),.int .u8 (q.c),.int .u8 (q.d),.int .u8 (q.e),.int .u8 (q.f),.int .u8 (q.g),.int .u8 (q.h)] false,.none,.box [.d (.int .u8 (a'.c.a)),.d (.int .u8 (a'.c.b)),.d (.int .u8 (a'.c.c)),.d (.int .u8 (a'.c.d)),.d (.int .u8 (a'.c.e)),.d (.int .u8 (a'.c.f)),.d (.int .u8 (a'.c.g)),.d (.int .u8 (a'.c.h)),.d (.int .u8 (a'.d.a)),.d (.int .u8 (a'.d.b)),.d (.int .u8 (a'.d.c)),.d (.int .u8 (a'.d.d)),.d (.int .u8 (a'.d.e)),.d (.int .u8 (a'.d.f)),.d (.int .u8 (a'.d.g)),.d (.int .u8 (a'.d.h))]]⟩:=⟨⟨2,⟨c.a,n / 65536 % 256,c.c,c.d,c.e,c.f,c.g,c.h⟩,⟨d.a,d.b,d.c,d.d,d.e,d.f,d.g,d.h⟩⟩,⟨⟨by show 2≤16; decide,m0,rfl,m2,m3,m4,m5,m6,m7,m8,m9,m10,m11,m12,m13,m14,m15⟩,by show 16 - 2 < 16 - 1; decide⟩,rfl⟩
  have hz:([.int .u8 (n / 16777216 % 256),.int .u8 (n / 65536 % 256),.int .u8 (n / 256 % 256),.int .u8 (n % 256),.int .u8 (m / 16777216 % 256),.int .u8 (m / 65536 % 256),.int .u8 (m / 256 % 256),.int .u8 (m % 256),.int .u8 (q.a),.int .u8 (q.b),.int .u8 (q.c),.int .u8 (q.d),.int .u8 (q.e),.int .u8 (q.f),.int .u8 (q.g),.int .u8 (q.h)]:List Data)[(((1:Nat):Int)).toNat]?=some (.int .u8 (n / 65536 % 256)):=rfl
  refine sd ?_
  refine an ?_ ?_
  refine an ?_ ?_
  exact rfl
  refine an ?_ ?_
  exact rfl
  refine an ?_ ?_
  (show (0:Int)≤(↑(1:Nat):Int); omega)
  (show (↑(1:Nat):Int) < (↑(16:Nat):Int); omega)
  refine sd ?_
  refine ca hz ?_
  refine an ?_ ?_
  refine an ?_ ?_
  (show (0:Int)≤(↑(1:Nat):Int); omega)
  (show (↑(1:Nat):Int) < (↑(16:Nat):Int); omega)
  refine ar_add ?_ ?_
  refine an ?_ ?_
  (show (-9223372036854775808:Int)≤(↑(1:Nat):Int)+(1:Int); omega)
  (show (↑(1:Nat):Int)+(1:Int)≤(9223372036854775807:Int); omega)
  rotate_left
  all_goals exact fin
 | 2,_,m0,m1,m2,m3,m4,m5,m6,m7,m8,m9,m10,m11,m12,m13,m14,m15 =>
  have fin:∃ a':K16,((a'.n≤16∧Mix16 a'.n a'.c a'.d ⟨n / 16777216 % 256,n / 65536 % 256,n / 256 % 256,n % 256,m / 16777216 % 256,m / 65536 % 256,m / 256 % 256,m % 256⟩ q)∧16 - a'.n < 16 - 2)∧(⟨[(2,.ptr 1 0),(3,.sl 2 16),(4,.ptr 4 0),(5,.d (.int .i64 (((2:Nat):Int)+1)))],[.none,.box [.d (.int .u8 0),.d (.int .u8 0),.d (.int .u8 0),.d (.int .u8 0),.d (.int .u8 0),.d (.int .u8 0),.d (.int .u8 0),.d (.int .u8 0),.d (.int .u8 0),.d (.int .u8 0),.d (.int .u8 0),.d (.int .u8 0),.d (.int .u8 0),.d (.int .u8 0),.d (.int .u8 0),.d (.int .u8 0)],.row 5 1 [.int .u8 (n / 16777216 % 256),.int .u8 (n / 65536 % 256),.int .u8 (n / 256 % 256),.int .u8 (n % 256),.int .u8 (m / 16777216 % 256),.int .u8 (m / 65536 % 256),.int .u8 (m / 256 % 256),.int .u8 (m % 256),.int .u8 (q.a),.int .u8 (q.b),.int .u8 (q.c),.int .u8 (q.d),.int .u8 (q.e),.int .u8 (q.f),.int .u8 (q.g),.int .u8 (q.h)] false,.none,.box [.d (.int .u8 (c.a)),.d (.int .u8 (c.b)),.d (.int .u8 (n / 256 % 256)),.d (.int .u8 (c.d)),.d (.int .u8 (c.e)),.d (.int .u8 (c.f)),.d (.int .u8 (c.g)),.d (.int .u8 (c.h)),.d (.int .u8 (d.a)),.d (.int .u8 (d.b)),.d (.int .u8 (d.c)),.d (.int .u8 (d.d)),.d (.int .u8 (d.e)),.d (.int .u8 (d.f)),.d (.int .u8 (d.g)),.d (.int .u8 (d.h))]]⟩:St)=⟨[(2,.ptr 1 0),(3,.sl 2 16),(4,.ptr 4 0),(5,.d (.int .i64 ((a'.n:Nat))))],[.none,.box [.d (.int .u8 0),.d (.int .u8 0),.d (.int .u8 0),.d (.int .u8 0),.d (.int .u8 0),.d (.int .u8 0),.d (.int .u8 0),.d (.int .u8 0),.d (.int .u8 0),.d (.int .u8 0),.d (.int .u8 0),.d (.int .u8 0),.d (.int .u8 0),.d (.int .u8 0),.d (.int .u8 0),.d (.int .u8 0)],.row 5 1 [.int .u8 (n / 16777216 % 256),.int .u8 (n / 65536 % 256),.int .u8 (n / 256 % 256),.int .u8 (n % 256),.int .u8 (m / 16777216 % 256),.int .u8 (m / 65536 % 256),.int .u8 (m / 256 % 256),.int .u8 (m % 256),.int .u8 (q.a),.int .u8 (q.b),.int .u8 (q.c),.int .u8 (q.d),.int .u8 (q.e),.int .u8 (q.f),.int .u8 (q.g),.int .u8 (q.h)] false,.none,.box [.d (.int .u8 (a'.c.a)),.d (.int .u8 (a'.c.b)),.d (.int .u8 (a'.c.c)),.d (.int .u8 (a'.c.d)),.d (.int .u8 (a'.c.e)),.d (.int .u8 (a'.c.f)),.d (.int .u8 (a'.c.g)),.d (.int .u8 (a'.c.h)),.d (.int .u8 (a'.d.a)),.d (.int .u8 (a'.d.b)),.d (.int .u8 (a'.d.c)),.d (.int .u8 (a'.d.d)),.d (.int .u8 (a'.d.e)),.d (.int .u8 (a'.d.f)),.d (.int .u8 (a'.d.g)),.d (.int .u8 (a'.d.h))]]⟩:=⟨⟨3,⟨c.a,c.b,n / 256 % 256,c.d,c.e,c.f,c.g,c.h⟩,⟨d.a,d.b,d.c,d.d,d.e,d.f,d.g,d.h⟩⟩,⟨⟨by show 3≤16; decide,m0,m1,rfl,m3,m4,m5,m6,m7,m8,m9,m10,m11,m12,m13,m14,m15⟩,by show 16 - 3 < 16 - 2; decide⟩,rfl⟩
  have hz:([.int .u8 (n / 16777216 % 256),.int .u8 (n / 65536 % 256),.int .u8 (n / 256 % 256),.int .u8 (n % 256),.int .u8 (m / 16777216 % 256),.int .u8 (m / 65536 % 256),.int .u8 (m / 256 % 256),.int .u8 (m % 256),.int .u8 (q.a),.int .u8 (q.b),.int .u8 (q.c),.int .u8 (q.d),.int .u8 (q.e),.int .u8 (q.f),.int .u8 (q.g),.int .u8 (q.h)]:List Data)[(((2:Nat):Int)).toNat]?=some (.int .u8 (n / 256 % 256)):=rfl
  refine sd ?_
  refine an ?_ ?_
  refine an ?_ ?_
  exact rfl
  refine an ?_ ?_
  exact rfl
  refine an ?_ ?_
  (show (0:Int)≤(↑(2:Nat):Int); omega)
  (show (↑(2:Nat):Int) < (↑(16:Nat):Int); omega)
  refine sd ?_
  refine ca hz ?_
  refine an ?_ ?_
  refine an ?_ ?_
  (show (0:Int)≤(↑(2:Nat):Int); omega)
  (show (↑(2:Nat):Int) < (↑(16:Nat):Int); omega)
  refine ar_add ?_ ?_
  refine an ?_ ?_
  (show (-9223372036854775808:Int)≤(↑(2:Nat):Int)+(1:Int); omega)
  (show (↑(2:Nat):Int)+(1:Int)≤(9223372036854775807:Int); omega)
  rotate_left
  all_goals exact fin
 | 3,_,m0,m1,m2,m3,m4,m5,m6,m7,m8,m9,m10,m11,m12,m13,m14,m15 =>
  have fin:∃ a':K16,((a'.n≤16∧Mix16 a'.n a'.c a'.d ⟨n / 16777216 % 256,n / 65536 % 256,n / 256 % 256,n % 256,m / 16777216 % 256,m / 65536 % 256,m / 256 % 256,m % 256⟩ q)∧16 - a'.n < 16 - 3)∧(⟨[(2,.ptr 1 0),(3,.sl 2 16),(4,.ptr 4 0),(5,.d (.int .i64 (((3:Nat):Int)+1)))],[.none,.box [.d (.int .u8 0),.d (.int .u8 0),.d (.int .u8 0),.d (.int .u8 0),.d (.int .u8 0),.d (.int .u8 0),.d (.int .u8 0),.d (.int .u8 0),.d (.int .u8 0),.d (.int .u8 0),.d (.int .u8 0),.d (.int .u8 0),.d (.int .u8 0),.d (.int .u8 0),.d (.int .u8 0),.d (.int .u8 0)],.row 5 1 [.int .u8 (n / 16777216 % 256),.int .u8 (n / 65536 % 256),.int .u8 (n / 256 % 256),.int .u8 (n % 256),.int .u8 (m / 16777216 % 256),.int .u8 (m / 65536 % 256),.int .u8 (m / 256 % 256),.int .u8 (m % 256),.int .u8 (q.a),.int .u8 (q.b),.int .u8 (q.c),.int .u8 (q.d),.int .u8 (q.e),.int .u8 (q.f),.int .u8 (q.g),.int .u8 (q.h)] false,.none,.box [.d (.int .u8 (c.a)),.d (.int .u8 (c.b)),.d (.int .u8 (c.c)),.d (.int .u8 (n % 256)),.d (.int .u8 (c.e)),.d (.int .u8 (c.f)),.d (.int .u8 (c.g)),.d (.int .u8 (c.h)),.d (.int .u8 (d.a)),.d (.int .u8 (d.b)),.d (.int .u8 (d.c)),.d (.int .u8 (d.d)),.d (.int .u8 (d.e)),.d (.int .u8 (d.f)),.d (.int .u8 (d.g)),.d (.int .u8 (d.h))]]⟩:St)=⟨[(2,.ptr 1 0),(3,.sl 2 16),(4,.ptr 4 0),(5,.d (.int .i64 ((a'.n:Nat))))],[.none,.box [.d (.int .u8 0),.d (.int .u8 0),.d (.int .u8 0),.d (.int .u8 0),.d (.int .u8 0),.d (.int .u8 0),.d (.int .u8 0),.d (.int .u8 0),.d (.int .u8 0),.d (.int .u8 0),.d (.int .u8 0),.d (.int .u8 0),.d (.int .u8 0),.d (.int .u8 0),.d (.int .u8 0),.d (.int .u8 0)],.row 5 1 [.int .u8 (n / 16777216 % 256),.int .u8 (n / 65536 % 256),.int .u8 (n / 256 % 256),.int .u8 (n % 256),.int .u8 (m / 16777216 % 256),.int .u8 (m / 65536 % 256),.int .u8 (m / 256 % 256),.int .u8 (m % 256),.int .u8 (q.a),.int .u8 (q.b),.int .u8 (q.c),.int .u8 (q.d),.int .u8 (q.e),.int .u8 (q.f),.int .u8 (q.g),.int .u8 (q.h)] false,.none,.box [.d (.int .u8 (a'.c.a)),.d (.int .u8 (a'.c.b)),.d (.int .u8 (a'.c.c)),.d (.int .u8 (a'.c.d)),.d (.int .u8 (a'.c.e)),.d (.int .u8 (a'.c.f)),.d (.int .u8 (a'.c.g)),.d (.int .u8 (a'.c.h)),.d (.int .u8 (a'.d.a)),.d (.int .u8 (a'.d.b)),.d (.int .u8 (a'.d.c)),.d (.int .u8 (a'.d.d)),.d (.int .u8 (a'.d.e)),.d (.int .u8 (a'.d.f)),.d (.int .u8 (a'.d.g)),.d (.int .u8 (a'.d.h))]]⟩:=⟨⟨4,⟨c.a,c.b,c.c,n % 256,c.e,c.f,c.g,c.h⟩,⟨d.a,d.b,d.c,d.d,d.e,d.f,d.g,d.h⟩⟩,⟨⟨by show 4≤16; decide,m0,m1,m2,rfl,m4,m5,m6,m7,m8,m9,m10,m11,m12,m13,m14,m15⟩,by show 16 - 4 < 16 - 3; decide⟩,rfl⟩
  have hz:([.int .u8 (n / 16777216 % 256),.int .u8 (n / 65536 % 256),.int .u8 (n / 256 % 256),.int .u8 (n % 256),.int .u8 (m / 16777216 % 256),.int .u8 (m / 65536 % 256),.int .u8 (m / 256 % 256),.int .u8 (m % 256),.int .u8 (q.a),.int .u8 (q.b),.int .u8 (q.c),.int .u8 (q.d),.int .u8 (q.e),.int .u8 (q.f),.int .u8 (q.g),.int .u8 (q.h)]:List Data)[(((3:Nat):Int)).toNat]?=some (.int .u8 (n % 256)):=rfl
  refine sd ?_
  refine an ?_ ?_
  refine an ?_ ?_
  exact rfl
  refine an ?_ ?_
  exact rfl
  refine an ?_ ?_
  (show (0:Int)≤(↑(3:Nat):Int); omega)
  (show (↑(3:Nat):Int) < (↑(16:Nat):Int); omega)
  refine sd ?_
  refine ca hz ?_
  refine an ?_ ?_
  refine an ?_ ?_
  (show (0:Int)≤(↑(3:Nat):Int); omega)
  (show (↑(3:Nat):Int) < (↑(16:Nat):Int); omega)
  refine ar_add ?_ ?_
  refine an ?_ ?_
  (show (-9223372036854775808:Int)≤(↑(3:Nat):Int)+(1:Int); omega)
  (show (↑(3:Nat):Int)+(1:Int)≤(9223372036854775807:Int); omega)
  rotate_left
  all_goals exact fin
 | 4,_,m0,m1,m2,m3,m4,m5,m6,m7,m8,m9,m10,m11,m12,m13,m14,m15 =>
  have fin:∃ a':K16,((a'.n≤16∧Mix16 a'.n a'.c a'.d ⟨n / 16777216 % 256,n / 65536 % 256,n / 256 % 256,n % 256,m / 16777216 % 256,m / 65536 % 256,m / 256 % 256,m % 256⟩ q)∧16 - a'.n < 16 - 4)∧(⟨[(2,.ptr 1 0),(3,.sl 2 16),(4,.ptr 4 0),(5,.d (.int .i64 (((4:Nat):Int)+1)))],[.none,.box [.d (.int .u8 0),.d (.int .u8 0),.d (.int .u8 0),.d (.int .u8 0),.d (.int .u8 0),.d (.int .u8 0),.d (.int .u8 0),.d (.int .u8 0),.d (.int .u8 0),.d (.int .u8 0),.d (.int .u8 0),.d (.int .u8 0),.d (.int .u8 0),.d (.int .u8 0),.d (.int .u8 0),.d (.int .u8 0)],.row 5 1 [.int .u8 (n / 16777216 % 256),.int .u8 (n / 65536 % 256),.int .u8 (n / 256 % 256),.int .u8 (n % 256),.int .u8 (m / 16777216 % 256),.int .u8 (m / 65536 % 256),.int .u8 (m / 256 % 256),.int .u8 (m % 256),.int .u8 (q.a),.int .u8 (q.b),.int .u8 (q.c),.int .u8 (q.d),.int .u8 (q.e),.int .u8 (q.f),.int .u8 (q.g),.int .u8 (q.h)] false,.none,.box [.d (.int .u8 (c.a)),.d (.int .u8 (c.b)),.d (.int .u8 (c.c)),.d (.int .u8 (c.d)),.d (.int .u8 (m / 16777216 % 256)),.d (.int .u8 (c.f)),.d (.int .u8 (c.g)),.d (.int .u8 (c.h)),.d (.int .u8 (d.a)),.d (.int .u8 (d.b)),.d (.int .u8 (d.c)),.d (.int .u8 (d.d)),.d (.int .u8 (d.e)),.d (.int .u8 (d.f)),.d (.int .u8 (d.g)),.d (.int .u8 (d.h))]]⟩:St)=⟨[(2,.ptr 1 0),(3,.sl 2 16),(4,.ptr 4 0),(5,.d (.int .i64 ((a'.n:Nat))))],[.none,.box [.d (.int .u8 0),.d (.int .u8 0),.d (.int .u8 0),.d (.int .u8 0),.d (.int .u8 0),.d (.int .u8 0),.d (.int .u8 0),.d (.int .u8 0),.d (.int .u8 0),.d (.int .u8 0),.d (.int .u8 0),.d (.int .u8 0),.d (.int .u8 0),.d (.int .u8 0),.d (.int .u8 0),.d (.int .u8 0)],.row 5 1 [.int .u8 (n / 16777216 % 256),.int .u8 (n / 65536 % 256),.int .u8 (n / 256 % 256),.int .u8 (n % 256),.int .u8 (m / 16777216 % 256),.int .u8 (m / 65536 % 256),.int .u8 (m / 256 % 256),.int .u8 (m % 256),.int .u8 (q.a),.int .u8 (q.b),.int .u8 (q.c),.int .u8 (q.d),.int .u8 (q.e),.int .u8 (q.f),.int .u8 (q.g),.int .u8 (q.h)] false,.none,.box [.d (.int .u8 (a'.c.a)),.d (.int .u8 (a'.c.b)),.d (.int .u8 (a'.c.c)),.d (.int .u8 (a'.c.d)),.d (.int .u8 (a'.c.e)),.d (.int .u8 (a'.c.f)),.d (.int .u8 (a'.c.g)),.d (.int .u8 (a'.c.h)),.d (.int .u8 (a'.d.a)),.d (.int .u8 (a'.d.b)),.d (.int .u8 (a'.d.c)),.d (.int .u8 (a'.d.d)),.d (.int .u8 (a'.d.e)),.d (.int .u8 (a'.d.f)),.d (.int .u8 (a'.d.g)),.d (.int .u8 (a'.d.h))]]⟩:=⟨⟨5,⟨c.a,c.b,c.c,c.d,m / 16777216 % 256,c.f,c.g,c.h⟩,⟨d.a,d.b,d.c,d.d,d.e,d.f,d.g,d.h⟩⟩,⟨⟨by show 5≤16; decide,m0,m1,m2,m3,rfl,m5,m6,m7,m8,m9,m10,m11,m12,m13,m14,m15⟩,by show 16 - 5 < 16 - 4; decide⟩,rfl⟩
  have hz:([.int .u8 (n / 16777216 % 256),.int .u8 (n / 65536 % 256),.int .u8 (n / 256 % 256),.int .u8 (n % 256),.int .u8 (m / 16777216 % 256),.int .u8 (m / 65536 % 256),.int .u8 (m / 256 % 256),.int .u8 (m % 256),.int .u8 (q.a),.int .u8 (q.b),.int .u8 (q.c),.int .u8 (q.d),.int .u8 (q.e),.int .u8 (q.f),.int .u8 (q.g),.int .u8 (q.h)]:List Data)[(((4:Nat):Int)).toNat]?=some (.int .u8 (m / 16777216 % 256)):=rfl
  refine sd ?_
  refine an ?_ ?_
  refine an ?_ ?_
  exact rfl
  refine an ?_ ?_
  exact rfl
  refine an ?_ ?_
  (show (0:Int)≤(↑(4:Nat):Int); omega)
  (show (↑(4:Nat):Int) < (↑(16:Nat):Int); omega)
  refine sd ?_
  refine ca hz ?_
  refine an ?_ ?_
  refine an ?_ ?_
  (show (0:Int)≤(↑(4:Nat):Int); omega)
  (show (↑(4:Nat):Int) < (↑(16:Nat):Int); omega)
  refine ar_add ?_ ?_
  refine an ?_ ?_
  (show (-9223372036854775808:Int)≤(↑(4:Nat):Int)+(1:Int); omega)
  (show (↑(4:Nat):Int)+(1:Int)≤(9223372036854775807:Int); omega)
  rotate_left
  all_goals exact fin
 | 5,_,m0,m1,m2,m3,m4,m5,m6,m7,m8,m9,m10,m11,m12,m13,m14,m15 =>
  have fin:∃ a':K16,((a'.n≤16∧Mix16 a'.n a'.c a'.d ⟨n / 16777216 % 256,n / 65536 % 256,n / 256 % 256,n % 256,m / 16777216 % 256,m / 65536 % 256,m / 256 % 256,m % 256⟩ q)∧16 - a'.n < 16 - 5)∧(⟨[(2,.ptr 1 0),(3,.sl 2 16),(4,.ptr 4 0),(5,.d (.int .i64 (((5:Nat):Int)+1)))],[.none,.box [.d (.int .u8 0),.d (.int .u8 0),.d (.int .u8 0),.d (.int .u8 0),.d (.int .u8 0),.d (.int .u8 0),.d (.int .u8 0),.d (.int .u8 0),.d (.int .u8 0),.d (.int .u8 0),.d (.int .u8 0),.d (.int .u8 0),.d (.int .u8 0),.d (.int .u8 0),.d (.int .u8 0),.d (.int .u8 0)],.row 5 1 [.int .u8 (n / 16777216 % 256),.int .u8 (n / 65536 % 256),.int .u8 (n / 256 % 256),.int .u8 (n % 256),.int .u8 (m / 16777216 % 256),.int .u8 (m / 65536 % 256),.int .u8 (m / 256 % 256),.int .u8 (m % 256),.int .u8 (q.a),.int .u8 (q.b),.int .u8 (q.c),.int .u8 (q.d),.int .u8 (q.e),.int .u8 (q.f),.int .u8 (q.g),.int .u8 (q.h)] false,.none,.box [.d (.int .u8 (c.a)),.d (.int .u8 (c.b)),.d (.int .u8 (c.c)),.d (.int .u8 (c.d)),.d (.int .u8 (c.e)),.d (.int .u8 (m / 65536 % 256)),.d (.int .u8 (c.g)),.d (.int .u8 (c.h)),.d (.int .u8 (d.a)),.d (.int .u8 (d.b)),.d (.int .u8 (d.c)),.d (.int .u8 (d.d)),.d (.int .u8 (d.e)),.d (.int .u8 (d.f)),.d (.int .u8 (d.g)),.d (.int .u8 (d.h))]]⟩:St)=⟨[(2,.ptr 1 0),(3,.sl 2 16),(4,.ptr 4 0),(5,.d (.int .i64 ((a'.n:Nat))))],[.none,.box [.d (.int .u8 0),.d (.int .u8 0),.d (.int .u8 0),.d (.int .u8 0),.d (.int .u8 0),.d (.int .u8 0),.d (.int .u8 0),.d (.int .u8 0),.d (.int .u8 0),.d (.int .u8 0),.d (.int .u8 0),.d (.int .u8 0),.d (.int .u8 0),.d (.int .u8 0),.d (.int .u8 0),.d (.int .u8 0)],.row 5 1 [.int .u8 (n / 16777216 % 256),.int .u8 (n / 65536 % 256),.int .u8 (n / 256 % 256),.int .u8 (n % 256),.int .u8 (m / 16777216 % 256),.int .u8 (m / 65536 % 256),.int .u8 (m / 256 % 256),.int .u8 (m % 256),.int .u8 (q.a),.int .u8 (q.b),.int .u8 (q.c),.int .u8 (q.d),.int .u8 (q.e),.int .u8 (q.f),.int .u8 (q.g),.int .u8 (q.h)] false,.none,.box [.d (.int .u8 (a'.c.a)),.d (.int .u8 (a'.c.b)),.d (.int .u8 (a'.c.c)),.d (.int .u8 (a'.c.d)),.d (.int .u8 (a'.c.e)),.d (.int .u8 (a'.c.f)),.d (.int .u8 (a'.c.g)),.d (.int .u8 (a'.c.h)),.d (.int .u8 (a'.d.a)),.d (.int .u8 (a'.d.b)),.d (.int .u8 (a'.d.c)),.d (.int .u8 (a'.d.d)),.d (.int .u8 (a'.d.e)),.d (.int .u8 (a'.d.f)),.d (.int .u8 (a'.d.g)),.d (.int .u8 (a'.d.h))]]⟩:=⟨⟨6,⟨c.a,c.b,c.c,c.d,c.e,m / 65536 % 256,c.g,c.h⟩,⟨d.a,d.b,d.c,d.d,d.e,d.f,d.g,d.h⟩⟩,⟨⟨by show 6≤16; decide,m0,m1,m2,m3,m4,rfl,m6,m7,m8,m9,m10,m11,m12,m13,m14,m15⟩,by show 16 - 6 < 16 - 5; decide⟩,rfl⟩
  have hz:([.int .u8 (n / 16777216 % 256),.int .u8 (n / 65536 % 256),.int .u8 (n / 256 % 256),.int .u8 (n % 256),.int .u8 (m / 16777216 % 256),.int .u8 (m / 65536 % 256),.int .u8 (m / 256 % 256),.int .u8 (m % 256),.int .u8 (q.a),.int .u8 (q.b),.int .u8 (q.c),.int .u8 (q.d),.int .u8 (q.e),.int .u8 (q.f),.int .u8 (q.g),.int .u8 (q.h)]:List Data)[(((5:Nat):Int)).toNat]?=some (.int .u8 (m / 65536 % 256)):=rfl
  refine sd ?_
  refine an ?_ ?_
  refine an ?_ ?_
  exact rfl
  refine an ?_ ?_
  exact rfl
  refine an ?_ ?_
  (show (0:Int)≤(↑(5:Nat):Int); omega)
  (show (↑(5:Nat):Int) < (↑(16:Nat):Int); omega)
  refine sd ?_
  refine ca hz ?_
  refine an ?_ ?_
  refine an ?_ ?_
  (show (0:Int)≤(↑(5:Nat):Int); omega)
  (show (↑(5:Nat):Int) < (↑(16:Nat):Int); omega)
  refine ar_add ?_ ?_
  refine an ?_ ?_
  (show (-9223372036854775808:Int)≤(↑(5:Nat):Int)+(1:Int); omega)
  (show (↑(5:Nat):Int)+(1:Int)≤(9223372036854775807:Int); omega)
  rotate_left
  all_goals exact fin
 | 6,_,m0,m1,m2,m3,m4,m5,m6,m7,m8,m9,m10,m11,m12,m13,m14,m15 =>
  have fin:∃ a':K16,((a'.n≤16∧Mix16 a'.n a'.c a'.d ⟨n / 16777216 % 256,n / 65536 % 256,n / 256 % 256,n % 256,m / 16777216 % 256,m / 65536 % 256,m / 256 % 256,m % 256⟩ q)∧16 - a'.n < 16 - 6)∧(⟨[(2,.ptr 1 0),(3,.sl 2 16),(4,.ptr 4 0),(5,.d (.int .i64 (((6:Nat):Int)+1)))],[.none,.box [.d (.int .u8 0),.d (.int .u8 0),.d (.int .u8 0),.d (.int .u8 0),.d (.int .u8 0),.d (.int .u8 0),.d (.int .u8 0),.d (.int .u8 0),.d (.int .u8 0),.d (.int .u8 0),.d (.int .u8 0),.d (.int .u8 0),.d (.int .u8 0),.d (.int .u8 0),.d (.int .u8 0),.d (.int .u8 0)],.row 5 1 [.int .u8 (n / 16777216 % 256),.int .u8 (n / 65536 % 256),.int .u8 (n / 256 % 256),.int .u8 (n % 256),.int .u8 (m / 16777216 % 256),.int .u8 (m / 65536 % 256),.int .u8 (m / 256 % 256),.int .u8 (m % 256),.int .u8 (q.a),.int .u8 (q.b),.int .u8 (q.c),.int .u8 (q.d),.int .u8 (q.e),.int .u8 (q.f),.int .u8 (q.g),.int .u8 (q.h)] false,.none,.box [.d (.int .u8 (c.a)),.d (.int .u8 (c.b)),.d (.int .u8 (c.c)),.d (.int .u8 (c.d)),.d (.int .u8 (c.e)),.d (.int .u8 (c.f)),.d (.int .u8 (m / 256 % 256)),.d (.int .u8 (c.h)),.d (.int .u8 (d.a)),.d (.int .u8 (d.b)),.d (.int .u8 (d.c)),.d (.int .u8 (d.d)),.d (.int .u8 (d.e)),.d (.int .u8 (d.f)),.d (.int .u8 (d.g)),.d (.int .u8 (d.h))]]⟩:St)=⟨[(2,.ptr 1 0),(3,.sl 2 16),(4,.ptr 4 0),(5,.d (.int .i64 ((a'.n:Nat))))],[.none,.box [.d (.int .u8 0),.d (.int .u8 0),.d (.int .u8 0),.d (.int .u8 0),.d (.int .u8 0),.d (.int .u8 0),.d (.int .u8 0),.d (.int .u8 0),.d (.int .u8 0),.d (.int .u8 0),.d (.int .u8 0),.d (.int .u8 0),.d (.int .u8 0),.d (.int .u8 0),.d (.int .u8 0),.d (.int .u8 0)],.row 5 1 [.int .u8 (n / 16777216 % 256),.int .u8 (n / 65536 % 256),.int .u8 (n / 256 % 256),.int .u8 (n % 256),.int .u8 (m / 16777216 % 256),.int .u8 (m / 65536 % 256),.int .u8 (m / 256 % 256),.int .u8 (m % 256),.int .u8 (q.a),.int .u8 (q.b),.int .u8 (q.c),.int .u8 (q.d),.int .u8 (q.e),.int .u8 (q.f),.int .u8 (q.g),.int .u8 (q.h)] false,.none,.box [.d (.int .u8 (a'.c.a)),.d (.int .u8 (a'.c.b)),.d (.int .u8 (a'.c.c)),.d (.int .u8 (a'.c.d)),.d (.int .u8 (a'.c.e)),.d (.int .u8 (a'.c.f)),.d (.int .u8 (a'.c.g)),.d (.int .u8 (a'.c.h)),.d (.int .u8 (a'.d.a)),.d (.int .u8 (a'.d.b)),.d (.int .u8 (a'.d.c)),.d (.int .u8 (a'.d.d)),.d (.int .u8 (a'.d.e)),.d (.int .u8 (a'.d.f)),.d (.int .u8 (a'.d.g)),.d (.int .u8 (a'.d.h))]]⟩:=⟨⟨7,⟨c.a,c.b,c.c,c.d,c.e,c.f,m / 256 % 256,c.h⟩,⟨d.a,d.b,d.c,d.d,d.e,d.f,d.g,d.h⟩⟩,⟨⟨by show 7≤16; decide,m0,m1,m2,m3,m4,m5,rfl,m7,m8,m9,m10,m11,m12,m13,m14,m15⟩,by show 16 - 7 < 16 - 6; decide⟩,rfl⟩
  have hz:([.int .u8 (n / 16777216 % 256),.int .u8 (n / 65536 % 256),.int .u8 (n / 256 % 256),.int .u8 (n % 256),.int .u8 (m / 16777216 % 256),.int .u8 (m / 65536 % 256),.int .u8 (m / 256 % 256),.int .u8 (m % 256),.int .u8 (q.a),.int .u8 (q.b),.int .u8 (q.c),.int .u8 (q.d),.int .u8 (q.e),.int .u8 (q.f),.int .u8 (q.g),.int .u8 (q.h)]:List Data)[(((6:Nat):Int)).toNat]?=some (.int .u8 (m / 256 % 256)):=rfl
  refine sd ?_
  refine an ?_ ?_
  refine an ?_ ?_
  exact rfl
  refine an ?_ ?_
  exact rfl
  refine an ?_ ?_
  (show (0:Int)≤(↑(6:Nat):Int); omega)
  (show (↑(6:Nat):Int) < (↑(16:Nat):Int); omega)
  refine sd ?_
  refine ca hz ?_
  refine an ?_ ?_
  refine an ?_ ?_
  (show (0:Int)≤(↑(6:Nat):Int); omega)
  (show (↑(6:Nat):Int) < (↑(16:Nat):Int); omega)
  refine ar_add ?_ ?_
  refine an ?_ ?_
  (show (-9223372036854775808:Int)≤(↑(6:Nat):Int)+(1:Int); omega)
  (show (↑(6:Nat):Int)+(1:Int)≤(9223372036854775807:Int); omega)
  rotate_left
  all_goals exact fin
 | 7,_,m0,m1,m2,m3,m4,m5,m6,m7,m8,m9,m10,m11,m12,m13,m14,m15 =>
  have fin:∃ a':K16,((a'.n≤16∧Mix16 a'.n a'.c a'.d ⟨n / 16777216 % 256,n / 65536 % 256,n / 256 % 256,n % 256,m / 16777216 % 256,m / 65536 % 256,m / 256 % 256,m % 256⟩ q)∧16 - a'.n < 16 - 7)∧(⟨[(2,.ptr 1 0),(3,.sl 2 16),(4,.ptr 4 0),(5,.d (.int .i64 (((7:Nat):Int)+1)))],[.none,.box [.d (.int .u8 0),.d (.int .u8 0),.d (.int .u8 0),.d (.int .u8 0),.d (.int .u8 0),.d (.int .u8 0),.d (.int .u8 0),.d (.int .u8 0),.d (.int .u8 0),.d (.int .u8 0),.d (.int .u8 0),.d (.int .u8 0),.d (.int .u8 0),.d (.int .u8 0),.d (.int .u8 0),.d (.int .u8 0)],.row 5 1 [.int .u8 (n / 16777216 % 256),.int .u8 (n / 65536 % 256),.int .u8 (n / 256 % 256),.int .u8 (n % 256),.int .u8 (m / 16777216 % 256),.int .u8 (m / 65536 % 256),.int .u8 (m / 256 % 256),.int .u8 (m % 256),.int .u8 (q.a),.int .u8 (q.b),.int .u8 (q.c),.int .u8 (q.d),.int .u8 (q.e),.int .u8 (q.f),.int .u8 (q.g),.int .u8 (q.h)] false,.none,.box [.d (.int .u8 (c.a)),.d (.int .u8 (c.b)),.d (.int .u8 (c.c)),.d (.int .u8 (c.d)),.d (.int .u8 (c.e)),.d (.int .u8 (c.f)),.d (.int .u8 (c.g)),.d (.int .u8 (m % 256)),.d (.int .u8 (d.a)),.d (.int .u8 (d.b)),.d (.int .u8 (d.c)),.d (.int .u8 (d.d)),.d (.int .u8 (d.e)),.d (.int .u8 (d.f)),.d (.int .u8 (d.g)),.d (.int .u8 (d.h))]]⟩:St)=⟨[(2,.ptr 1 0),(3,.sl 2 16),(4,.ptr 4 0),(5,.d (.int .i64 ((a'.n:Nat))))],[.none,.box [.d (.int .u8 0),.d (.int .u8 0),.d (.int .u8 0),.d (.int .u8 0),.d (.int .u8 0),.d (.int .u8 0),.d (.int .u8 0),.d (.int .u8 0),.d (.int .u8 0),.d (.int .u8 0),.d (.int .u8 0),.d (.int .u8 0),.d (.int .u8 0),.d (.int .u8 0),.d (.int .u8 0),.d (.int .u8 0)],.row 5 1 [.int .u8 (n / 16777216 % 256),.int .u8 (n / 65536 % 256),.int .u8 (n / 256 % 256),.int .u8 (n % 256),.int .u8 (m / 16777216 % 256),.int .u8 (m / 65536 % 256),.int .u8 (m / 256 % 256),.int .u8 (m % 256),.int .u8 (q.a),.int .u8 (q.b),.int .u8 (q.c),.int .u8 (q.d),.int .u8 (q.e),.int .u8 (q.f),.int .u8 (q.g),.int .u8 (q.h)] false,.none,.box [.d (.int .u8 (a'.c.a)),.d (.int .u8 (a'.c.b)),.d (.int .u8 (a'.c.c)),.d (.int .u8 (a'.c.d)),.d (.int .u8 (a'.c.e)),.d (.int .u8 (a'.c.f)),.d (.int .u8 (a'.c.g)),.d (.int .u8 (a'.c.h)),.d (.int .u8 (a'.d.a)),.d (.int .u8 (a'.d.b)),.d (.int .u8 (a'.d.c)),.d (.int .u8 (a'.d.d)),.d (.int .u8 (a'.d.e)),.d (.int .u8 (a'.d.f)),.d (.int .u8 (a'.d.g)),.d (.int .u8 (a'.d.h))]]⟩:=⟨⟨8,⟨c.a,c.b,c.c,c.d,c.e,c.f,c.g,m % 256⟩,⟨d.a,d.b,d.c,d.d,d.e,d.f,d.g,d.h⟩⟩,⟨⟨by show 8≤16; decide,m0,m1,m2,m3,m4,m5,m6,rfl,m8,m9,m10,m11,m12,m13,m14,m15⟩,by show 16 - 8 < 16 - 7; decide⟩,rfl⟩
  have hz:([.int .u8 (n / 16777216 % 256),.int .u8 (n / 65536 % 256),.int .u8 (n / 256 % 256),.int .u8 (n % 256),.int .u8 (m / 16777216 % 256),.int .u8 (m / 65536 % 256),.int .u8 (m / 256 % 256),.int .u8 (m % 256),.int .u8 (q.a),.int .u8 (q.b),.int .u8 (q.c),.int .u8 (q.d),.int .u8 (q.e),.int .u8 (q.f),.int .u8 (q.g),.int .u8 (q.h)]:List Data)[(((7:Nat):Int)).toNat]?=some (.int .u8 (m % 256)):=rfl
  refine sd ?_
  refine an ?_ ?_
  refine an ?_ ?_
  exact rfl
  refine an ?_ ?_
  exact rfl
  refine an ?_ ?_
  (show (0:Int)≤(↑(7:Nat):Int); omega)
  (show (↑(7:Nat):Int) < (↑(16:Nat):Int); omega)
  refine sd ?_
  refine ca hz ?_
  refine an ?_ ?_
  refine an ?_ ?_
  (show (0:Int)≤(↑(7:Nat):Int); omega)
  (show (↑(7:Nat):Int) < (↑(16:Nat):Int); omega)
  refine ar_add ?_ ?_
  refine an ?_ ?_
  (show (-9223372036854775808:Int)≤(↑(7:Nat):Int)+(1:Int); omega)
  (show (↑(7:Nat):Int)+(1:Int)≤(9223372036854775807:Int); omega)
  rotate_left
  all_goals exact fin
 | 8,_,m0,m1,m2,m3,m4,m5,m6,m7,m8,m9,m10,m11,m12,m13,m14,m15 =>
  have fin:∃ a':K16,((a'.n≤16∧Mix16 a'.n a'.c a'.d ⟨n / 16777216 % 256,n / 65536 % 256,n / 256 % 256,n % 256,m / 16777216 % 256,m / 65536 % 256,m / 256 % 256,m % 256⟩ q)∧16 - a'.n < 16 - 8)∧(⟨[(2,.ptr 1 0),(3,.sl 2 16),(4,.ptr 4 0),(5,.d (.int .i64 (((8:Nat):Int)+1)))],[.none,.box [.d (.int .u8 0),.d (.int .u8 0),.d (.int .u8 0),.d (.int .u8 0),.d (.int .u8 0),.d (.int .u8 0),.d (.int .u8 0),.d (.int .u8 0),.d (.int .u8 0),.d (.int .u8 0),.d (.int .u8 0),.d (.int .u8 0),.d (.int .u8 0),.d (.int .u8 0),.d (.int .u8 0),.d (.int .u8 0)],.row 5 1 [.int .u8 (n / 16777216 % 256),.int .u8 (n / 65536 % 256),.int .u8 (n / 256 % 256),.int .u8 (n % 256),.int .u8 (m / 16777216 % 256),.int .u8 (m / 65536 % 256),.int .u8 (m / 256 % 256),.int .u8 (m % 256),.int .u8 (q.a),.int .u8 (q.b),.int .u8 (q.c),.int .u8 (q.d),.int .u8 (q.e),.int .u8 (q.f),.int .u8 (q.g),.int .u8 (q.h)] false,.none,.box [.d (.int .u8 (c.a)),.d (.int .u8 (c.b)),.d (.int .u8 (c.c)),.d (.int .u8 (c.d)),.d (.int .u8 (c.e)),.d (.int .u8 (c.f)),.d (.int .u8 (c.g)),.d (.int .u8 (c.h)),.d (.int .u8 (q.a)),.d (.int .u8 (d.b)),.d (.int .u8 (d.c)),.d (.int .u8 (d.d)),.d (.int .u8 (d.e)),.d (.int .u8 (d.f)),.d (.int .u8 (d.g)),.d (.int .u8 (d.h))]]⟩:St)=⟨[(2,.ptr 1 0),(3,.sl 2 16),(4,.ptr 4 0),(5,.d (.int .i64 ((a'.n:Nat))))],[.none,.box [.d (.int .u8 0),.d (.int .u8 0),.d (.int .u8 0),.d (.int .u8 0),.d (.int .u8 0),.d (.int .u8 0),.d (.int .u8 0),.d (.int .u8 0),.d (.int .u8 0),.d (.int .u8 0),.d (.int .u8 0),.d (.int .u8 0),.d (.int .u8 0),.d (.int .u8 0),.d (.int .u8 0),.d (.int .u8 0)],.row 5 1 [.int .u8 (n / 16777216 % 256),.int .u8 (n / 65536 % 256),.int .u8 (n / 256 % 256),.int .u8 (n % 256),.int .u8 (m / 16777216 % 256),.int .u8 (m / 65536 % 256),.int .u8 (m / 256 % 256),.int .u8 (m % 256),.int .u8 (q.a),.int .u8 (q.b),.int .u8 (q.c),.int .u8 (q.d),.int .u8 (q.e),.int .u8 (q.f),.int .u8 (q.g),.int .u8 (q.h)] false,.none,.box [.d (.int .u8 (a'.c.a)),.d (.int .u8 (a'.c.b)),.d (.int .u8 (a'.c.c)),.d (.int .u8 (a'.c.d)),.d (.int .u8 (a'.c.e)),.d (.int .u8 (a'.c.f)),.d (.int .u8 (a'.c.g)),.d (.int .u8 (a'.c.h)),.d (.int .u8 (a'.d.a)),.d (.int .u8 (a'.d.b)),.d (.int .u8 (a'.d.c)),.d (.int .u8 (a'.d.d)),.d (.int .u8 (a'.d.e)),.d (.int .u8 (a'.d.f)),.d (.int .u8 (a'.d.g)),.d (.int .u8 (a'.d.h))]]⟩:=⟨⟨9,⟨c.a,c.b,c.c,c.d,c.e,c.f,c.g,c.h⟩,⟨q.a,d.b,d.c,d.d,d.e,d.f,d.g,d.h⟩⟩,⟨⟨by show 9≤16; decide,m0,m1,m2,m3,m4,m5,m6,m7,rfl,m9,m10,m11,m12,m13,m14,m15⟩,by show 16 - 9 < 16 - 8; decide⟩,rfl⟩
  have hz:([.int .u8 (n / 16777216 % 256),.int .u8 (n / 65536 % 256),.int .u8 (n / 256 % 256),.int .u8 (n % 256),.int .u8 (m / 16777216 % 256),.int .u8 (m / 65536 % 256),.int .u8 (m / 256 % 256),.int .u8 (m % 256),.int .u8 (q.a),.int .u8 (q.b),.int .u8 (q.c),.int .u8 (q.d),.int .u8 (q.e),.int .u8 (q.f),.int .u8 (q.g),.int .u8 (q.h)]:List Data)[(((8:Nat):Int)).toNat]?=some (.int .u8 (q.a)):=rfl
  refine sd ?_
  refine an ?_ ?_
  refine an ?_ ?_
  exact rfl
  refine an ?_ ?_
  exact rfl
  refine an ?_ ?_
  (show (0:Int)≤(↑(8:Nat):Int); omega)
  (show (↑(8:Nat):Int) < (↑(16:Nat):Int); omega)
  refine sd ?_
  refine ca hz ?_
  refine an ?_ ?_
  refine an ?_ ?_
  (show (0:Int)≤(↑(8:Nat):Int); omega)
  (show (↑(8:Nat):Int) < (↑(16:Nat):Int); omega)
  refine ar_add ?_ ?_
  refine an ?_ ?_
  (show (-9223372036854775808:Int)≤(↑(8:Nat):Int)+(1:Int); omega)
  (show (↑(8:Nat):Int)+(1:Int)≤(9223372036854775807:Int); omega)
  rotate_left
  all_goals exact fin
 | 9,_,m0,m1,m2,m3,m4,m5,m6,m7,m8,m9,m10,m11,m12,m13,m14,m15 =>
  have fin:∃ a':K16,((a'.n≤16∧Mix16 a'.n a'.c a'.d ⟨n / 16777216 % 256,n / 65536 % 256,n / 256 % 256,n % 256,m / 16777216 % 256,m / 65536 % 256,m / 256 % 256,m % 256⟩ q)∧16 - a'.n < 16 - 9)∧(⟨[(2,.ptr 1 0),(3,.sl 2 16),(4,.ptr 4 0),(5,.d (.int .i64 (((9:Nat):Int)+1)))],[.none,.box [.d (.int .u8 0),.d (.int .u8 0),.d (.int .u8 0),.d (.int .u8 0),.d (.int .u8 0),.d (.int .u8 0),.d (.int .u8 0),.d (.int .u8 0),.d (.int .u8 0),.d (.int .u8 0),.d (.int .u8 0),.d (.int .u8 0),.d (.int .u8 0),.d (.int .u8 0),.d (.int .u8 0),.d (.int .u8 0)],.row 5 1 [.int .u8 (n / 16777216 % 256),.int .u8 (n / 65536 % 256),.int .u8 (n / 256 % 256),.int .u8 (n % 256),.int .u8 (m / 16777216 % 256),.int .u8 (m / 65536 % 256),.int .u8 (m / 256 % 256),.int .u8 (m % 256),.int .u8 (q.a),.int .u8 (q.b),.int .u8 (q.c),.int .u8 (q.d),.int .u8 (q.e),.int .u8 (q.f),.int .u8 (q.g),.int .u8 (q.h)] false,.none,.box [.d (.int .u8 (c.a)),.d (.int .u8 (c.b)),.d (.int .u8 (c.c)),.d (.int .u8 (c.d)),.d (.int .u8 (c.e)),.d (.int .u8 (c.f)),.d (.int .u8 (c.g)),.d (.int .u8 (c.h)),.d (.int .u8 (d.a)),.d (.int .u8 (q.b)),.d (.int .u8 (d.c)),.d (.int .u8 (d.d)),.d (.int .u8 (d.e)),.d (.int .u8 (d.f)),.d (.int .u8 (d.g)),.d (.int .u8 (d.h))]]⟩:St)=⟨[(2,.ptr 1 0),(3,.sl 2 16),(4,.ptr 4 0),(5,.d (.int .i64 ((a'.n:Nat))))],[.none,.box [.d (.int .u8 0),.d (.int .u8 0),.d (.int .u8 0),.d (.int .u8 0),.d (.int .u8 0),.d (.int .u8 0),.d (.int .u8 0),.d (.int .u8 0),.d (.int .u8 0),.d (.int .u8 0),.d (.int .u8 0),.d (.int .u8 0),.d (.int .u8 0),.d (.int .u8 0),.d (.int .u8 0),.d (.int .u8 0)],.row 5 1 [.int .u8 (n / 16777216 % 256),.int .u8 (n / 65536 % 256),.int .u8 (n / 256 % 256),.int .u8 (n % 256),.int .u8 (m / 16777216 % 256),.int .u8 (m / 65536 % 256),.int .u8 (m / 256 % 256),.int .u8 (m % 256),.int .u8 (q.a),.int .u8 (q.b),.int .u8 (q.c),.int .u8 (q.d),.int .u8 (q.e),.int .u8 (q.f),.int .u8 (q.g),.int .u8 (q.h)] false,.none,.box [.d (.int .u8 (a'.c.a)),.d (.int .u8 (a'.c.b)),.d (.int .u8 (a'.c.c)),.d (.int .u8 (a'.c.d)),.d (.int .u8 (a'.c.e)),.d (.int .u8 (a'.c.f)),.d (.int .u8 (a'.c.g)),.d (.int .u8 (a'.c.h)),.d (.int .u8 (a'.d.a)),.d (.int .u8 (a'.d.b)),.d (.int .u8 (a'.d.c)),.d (.int .u8 (a'.d.d)),.d (.int .u8 (a'.d.e)),.d (.int .u8 (a'.d.f)),.d (.int .u8 (a'.d.g)),.d (.int .u8 (a'.d.h))]]⟩:=⟨⟨10,⟨c.a,c.b,c.c,c.d,c.e,c.f,c.g,c.h⟩,⟨d.a,q.b,d.c,d.d,d.e,d.f,d.g,d.h⟩⟩,⟨⟨by show 10≤16; decide,m0,m1,m2,m3,m4,m5,m6,m7,m8,rfl,m10,m11,m12,m13,m14,m15⟩,by show 16 - 10 < 16 - 9; decide⟩,rfl⟩
  have hz:([.int .u8 (n / 16777216 % 256),.int .u8 (n / 65536 % 256),.int .u8 (n / 256 % 256),.int .u8 (n % 256),.int .u8 (m / 16777216 % 256),.int .u8 (m / 65536 % 256),.int .u8 (m / 256 % 256),.int .u8 (m % 256),.int .u8 (q.a),.int .u8 (q.b),.int .u8 (q.c),.int .u8 (q.d),.int .u8 (q.e),.int .u8 (q.f),.int .u8 (q.g),.int .u8 (q.h)]:List Data)[(((9:Nat):Int)).toNat]?=some (.int .u8 (q.b)):=rfl
  refine sd ?_
  refine an ?_ ?_
  refine an ?_ ?_
  exact rfl
  refine an ?_ ?_
  exact rfl
  refine an ?_ ?_
  (show (0:Int)≤(↑(9:Nat):Int); omega)
  (show (↑(9:Nat):Int) < (↑(16:Nat):Int); omega)
  refine sd ?_
  refine ca hz ?_
  refine an ?_ ?_
  refine an ?_ ?_
  (show (0:Int)≤(↑(9:Nat):Int); omega)
  (show (↑(9:Nat):Int) < (↑(16:Nat):Int); omega)
  refine ar_add ?_ ?_
  refine an ?_ ?_
  (show (-9223372036854775808:Int)≤(↑(9:Nat):Int)+(1:Int); omega)
  (show (↑(9:Nat):Int)+(1:Int)≤(9223372036854775807:Int); omega)
  rotate_left
  all_goals exact fin
 | 10,_,m0,m1,m2,m3,m4,m5,m6,m7,m8,m9,m10,m11,m12,m13,m14,m15 =>
  have fin:∃ a':K16,((a'.n≤16∧Mix16 a'.n a'.c a'.d ⟨n / 16777216 % 256,n / 65536 % 256,n / 256 % 256,n % 256,m / 16777216 % 256,m / 65536 % 256,m / 256 % 256,m % 256⟩ q)∧16 - a'.n < 16 - 10)∧(⟨[(2,.ptr 1 0),(3,.sl 2 16),(4,.ptr 4 0),(5,.d (.int .i64 (((10:Nat):Int)+1)))],[.none,.box [.d (.int .u8 0),.d (.int .u8 0),.d (.int .u8 0),.d (.int .u8 0),.d (.int .u8 0),.d (.int .u8 0),.d (.int .u8 0),.d (.int .u8 0),.d (.int .u8 0),.d (.int .u8 0),.d (.int .u8 0),.d (.int .u8 0),.d (.int .u8 0),.d (.int .u8 0),.d (.int .u8 0),.d (.int .u8 0)],.row 5 1 [.int .u8 (n / 16777216 % 256),.int .u8 (n / 65536 % 256),.int .u8 (n / 256 % 256),.int .u8 (n % 256),.int .u8 (m / 16777216 % 256),.int .u8 (m / 65536 % 256),.int .u8 (m / 256 % 256),.int .u8 (m % 256),.int .u8 (q.a),.int .u8 (q.b),.int .u8 (q.c),.int .u8 (q.d),.int .u8 (q.e),.int .u8 (q.f),.int .u8 (q.g),.int .u8 (q.h)] false,.none,.box [.d (.int .u8 (c.a)),.d (.int .u8 (c.b)),.d (.int .u8 (c.c)),.d (.int .u8 (c.d)),.d (.int .u8 (c.e)),.d (.int .u8 (c.f)),.d (.int .u8 (c.g)),.d (.int .u8 (c.h)),.d (.int .u8 (d.a)),.d (.int .u8 (d.b)),.d (.int .u8 (q.c)),.d (.int .u8 (d.d)),.d (.int .u8 (d.e)),.d (.int .u8 (d.f)),.d (.int .u8 (d.g)),.d (.int .u8 (d.h))]]⟩:St)=⟨[(2,.ptr 1 0),(3,.sl 2 16),(4,.ptr 4 0),(5,.d (.int .i64 ((a'.n:Nat))))],[.none,.box [.d (.int .u8 0),.d (.int .u8 0),.d (.int .u8 0),.d (.int .u8 0),.d (.int .u8 0),.d (.int .u8 0),.d (.int .u8 0),.d (.int .u8 0),.d (.int .u8 0),.d (.int .u8 0),.d (.int .u8 0),.d (.int .u8 0),.d (.int .u8 0),.d (.int .u8 0),.d (.int .u8 0),.d (.int .u8 0)],.row 5 1 [.int .u8 (n / 16777216 % 256),.int .u8 (n / 65536 % 256),.int .u8 (n / 256 % 256),.int .u8 (n % 256),.int .u8 (m / 16777216 % 256),.int .u8 (m / 65536 % 256),.int .u8 (m / 256 % 256),.int .u8 (m % 256),.int .u8 (q.a),.int .u8 (q.b),.int .u8 (q.c),.int .u8 (q.d),.int .u8 (q.e),.int .u8 (q.f),.int .u8 (q.g),.int .u8 (q.h)] false,.none,.box [.d (.int .u8 (a'.c.a)),.d (.int .u8 (a'.c.b)),.d (.int .u8 (a'.c.c)),.d (.int .u8 (a'.c.d)),.d (.int .u8 (a'.c.e)),.d (.int .u8 (a'.c.f)),.d (.int .u8 (a'.c.g)),.d (.int .u8 (a'.c.h)),.d (.int .u8 (a'.d.a)),.d (.int .u8 (a'.d.b)),.d (.int .u8 (a'.d.c)),.d (.int .u8 (a'.d.d)),.d (.int .u8 (a'.d.e)),.d (.int .u8 (a'.d.f)),.d (.int .u8 (a'.d.g)),.d (.int .u8 (a'.d.h))]]⟩:=⟨⟨11,⟨c.a,c.b,c.c,c.d,c.e,c.f,c.g,c.h⟩,⟨d.a,d.b,q.c,d.d,d.e,d.f,d.g,d.h⟩⟩,⟨⟨by show 11≤16; decide,m0,m1,m2,m3,m4,m5,m6,m7,m8,m9,rfl,m11,m12,m13,m14,m15⟩,by show 16 - 11 < 16 - 10; decide⟩,rfl⟩
  have hz:([.int .u8 (n / 16777216 % 256),.int .u8 (n / 65536 % 256),.int .u8 (n / 256 % 256),.int .u8 (n % 256),.int .u8 (m / 16777216 % 256),.int .u8 (m / 65536 % 256),.int .u8 (m / 256 % 256),.int .u8 (m % 256),.int .u8 (q.a),.int .u8 (q.b),.int .u8 (q.c),.int .u8 (q.d),.int .u8 (q.e),.int .u8 (q.f),.int .u8 (q.g),.int .u8 (q.h)]:List Data)[(((10:Nat):Int)).toNat]?=some (.int .u8 (q.c)):=rfl
  refine sd ?_
  refine an ?_ ?_
  refine an ?_ ?_
  exact rfl
  refine an ?_ ?_
  exact rfl
  refine an ?_ ?_
  (show (0:Int)≤(↑(10:Nat):Int); omega)
  (show (↑(10:Nat):Int) < (↑(16:Nat):Int); omega)
  refine sd ?_
  refine ca hz ?_
  refine an ?_ ?_
  refine an ?_ ?_
  (show (0:Int)≤(↑(10:Nat):Int); omega)
  (show (↑(10:Nat):Int) < (↑(16:Nat):Int); omega)
  refine ar_add ?_ ?_
  refine an ?_ ?_
  (show (-9223372036854775808:Int)≤(↑(10:Nat):Int)+(1:Int); omega)
  (show (↑(10:Nat):Int)+(1:Int)≤(9223372036854775807:Int); omega)
  rotate_left
  all_goals exact fin
 | 11,_,m0,m1,m2,m3,m4,m5,m6,m7,m8,m9,m10,m11,m12,m13,m14,m15 =>
  have fin:∃ a':K16,((a'.n≤16∧Mix16 a'.n a'.c a'.d ⟨n / 16777216 % 256,n / 65536 % 256,n / 256 % 256,n % 256,m / 16777216 % 256,m / 65536 % 256,m / 256 % 256,m % 256⟩ q)∧16 - a'.n < 16 - 11)∧(⟨[(2,.ptr 1 0),(3,.sl 2 16),(4,.ptr 4 0),(5,.d (.int .i64 (((11:Nat):Int)+1)))],[.none,.box [.d (.int .u8 0),.d (.int .u8 0),.d (.int .u8 0),.d (.int .u8 0),.d (.int .u8 0),.d (.int .u8 0),.d (.int .u8 0),.d (.int .u8 0),.d (.int .u8 0),.d (.int .u8 0),.d (.int .u8 0),.d (.int .u8 0),.d (.int .u8 0),.d (.int .u8 0),.d (.int .u8 0),.d (.int .u8 0)],.row 5 1 [.int .u8 (n / 16777216 % 256),.int .u8 (n / 65536 % 256),.int .u8 (n / 256 % 256),.int .u8 (n % 256),.int .u8 (m / 16777216 % 256),.int .u8 (m / 65536 % 256),.int .u8 (m / 256 % 256),.int .u8 (m % 256),.int .u8 (q.a),.int .u8 (q.b),.int .u8 (q.c),.int .u8 (q.d),.int .u8 (q.e),.int .u8 (q.f),.int .u8 (q.g),.int .u8 (q.h)] false,.none,.box [.d (.int .u8 (c.a)),.d (.int .u8 (c.b)),.d (.int .u8 (c.c)),.d (.int .u8 (c.d)),.d (.int .u8 (c.e)),.d (.int .u8 (c.f)),.d (.int .u8 (c.g)),.d (.int .u8 (c.h)),.d (.int .u8 (d.a)),.d (.int .u8 (d.b)),.d (.int .u8 (d.c)),.d (.int .u8 (q.d)),.d (.int .u8 (d.e)),.d (.int .u8 (d.f)),.d (.int .u8 (d.g)),.d (.int .u8 (d.h))]]⟩:St)=⟨[(2,.ptr 1 0),(3,.sl 2 16),(4,.ptr 4 0),(5,.d (.int .i64 ((a'.n:Nat))))],[.none,.box [.d (.int .u8 0),.d (.int .u8 0),.d (.int .u8 0),.d (.int .u8 0),.d (.int .u8 0),.d (.int .u8 0),.d (.int .u8 0),.d (.int .u8 0),.d (.int .u8 0),.d (.int .u8 0),.d (.int .u8 0),.d (.int .u8 0),.d (.int .u8 0),.d (.int .u8 0),.d (.int .u8 0),.d (.int .u8 0)],.row 5 1 [.int .u8 (n / 16777216 % 256),.int .u8 (n / 65536 % 256),.int .u8 (n / 256 % 256),.int .u8 (n % 256),.int .u8 (m / 16777216 % 256),.int .u8 (m / 65536 % 256),.int .u8 (m / 256 % 256),.int .u8 (m % 256),.int .u8 (q.a),.int .u8 (q.b),.int .u8 (q.c),.int .u8 (q.d),.int .u8 (q.e),.int .u8 (q.f),.int .u8 (q.g),.int .u8 (q.h)] false,.none,.box [.d (.int .u8 (a'.c.a)),.d (.int .u8 (a'.c.b)),.d (.int .u8 (a'.c.c)),.d (.int .u8 (a'.c.d)),.d (.int .u8 (a'.c.e)),.d (.int .u8 (a'.c.f)),.d (.int .u8 (a'.c.g)),.d (.int .u8 (a'.c.h)),.d (.int .u8 (a'.d.a)),.d (.int .u8 (a'.d.b)),.d (.int .u8 (a'.d.c)),.d (.int .u8 (a'.d.d)),.d (.int .u8 (a'.d.e)),.d (.int .u8 (a'.d.f)),.d (.int .u8 (a'.d.g)),.d (.int .u8 (a'.d.h))]]⟩:=⟨⟨12,⟨c.a,c.b,c.c,c.d,c.e,c.f,c.g,c.h⟩,⟨d.a,d.b,d.c,q.d,d.e,d.f,d.g,d.h⟩⟩,⟨⟨by show 12≤16; decide,m0,m1,m2,m3,m4,m5,m6,m7,m8,m9,m10,rfl,m12,m13,m14,m15⟩,by show 16 - 12 < 16 - 11; decide⟩,rfl⟩
  have hz:([.int .u8 (n / 16777216 % 256),.int .u8 (n / 65536 % 256),.int .u8 (n / 256 % 256),.int .u8 (n % 256),.int .u8 (m / 16777216 % 256),.int .u8 (m / 65536 % 256),.int .u8 (m / 256 % 256),.int .u8 (m % 256),.int .u8 (q.a),.int .u8 (q.b),.int .u8 (q.c),.int .u8 (q.d),.int .u8 (q.e),.int .u8 (q.f),.int .u8 (q.g),.int .u8 (q.h)]:List Data)[(((11:Nat):Int)).toNat]?=some (.int .u8 (q.d)):=rfl
  refine sd ?_
  refine an ?_ ?_
  refine an ?_ ?_
  exact rfl
  refine an ?_ ?_
  exact rfl
  refine an ?_ ?_
  (show (0:Int)≤(↑(11:Nat):Int); omega)
  (show (↑(11:Nat):Int) < (↑(16:Nat):Int); omega)
  refine sd ?_
  refine ca hz ?_
  refine an ?_ ?_
  refine an ?_ ?_
  (show (0:Int)≤(↑(11:Nat):Int); omega)
  (show (↑(11:Nat):Int) < (↑(16:Nat):Int); omega)
  refine ar_add ?_ ?_
  refine an ?_ ?_
  (show (-9223372036854775808:Int)≤(↑(11:Nat):Int)+(1:Int); omega)
  (show (↑(11:Nat):Int)+(1:Int)≤(9223372036854775807:Int); omega)
  rotate_left
  all_goals exact fin
 | 12,_,m0,m1,m2,m3,m4,m5,m6,m7,m8,m9,m10,m11,m12,m13,m14,m15 =>
  have fin:∃ a':K16,((a'.n≤16∧Mix16 a'.n a'.c a'.d ⟨n / 16777216 % 256,n / 65536 % 256,n / 256 % 256,n % 256,m / 16777216 % 256,m / 65536 % 256,m / 256 % 256,m % 256⟩ q)∧16 - a'.n < 16 - 12)∧(⟨[(2,.ptr 1 0),(3,.sl 2 16),(4,.ptr 4 0),(5,.d (.int .i64 (((12:Nat):Int)+1)))],[.none,.box [.d (.int .u8 0),.d (.int .u8 0),.d (.int .u8 0),.d (.int .u8 0),.d (.int .u8 0),.d (.int .u8 0),.d (.int .u8 0),.d (.int .u8 0),.d (.int .u8 0),.d (.int .u8 0),.d (.int .u8 0),.d (.int .u8 0),.d (.int .u8 0),.d (.int .u8 0),.d (.int .u8 0),.d (.int .u8 0)],.row 5 1 [.int .u8 (n / 16777216 % 256),.int .u8 (n / 65536 % 256),.int .u8 (n / 256 % 256),.int .u8 (n % 256),.int .u8 (m / 16777216 % 256),.int .u8 (m / 65536 % 256),.int .u8 (m / 256 % 256),.int .u8 (m % 256),.int .u8 (q.a),.int .u8 (q.b),.int .u8 (q.c),.int .u8 (q.d),.int .u8 (q.e),.int .u8 (q.f),.int .u8 (q.g),.int .u8 (q.h)] false,.none,.box [.d (.int .u8 (c.a)),.d (.int .u8 (c.b)),.d (.int .u8 (c.c)),.d (.int .u8 (c.d)),.d (.int .u8 (c.e)),.d (.int .u8 (c.f)),.d (.int .u8 (c.g)),.d (.int .u8 (c.h)),.d (.int .u8 (d.a)),.d (.int .u8 (d.b)),.d (.int .u8 (d.c)),.d (.int .u8 (d.d)),.d (.int .u8 (q.e)),.d (.int .u8 (d.f)),.d (.int .u8 (d.g)),.d (.int .u8 (d.h))]]⟩:St)=⟨[(2,.ptr 1 0),(3,.sl 2 16),(4,.ptr 4 0),(5,.d (.int .i64 ((a'.n:Nat))))],[.none,.box [.d (.int .u8 0),.d (.int .u8 0),.d (.int .u8 0),.d (.int .u8 0),.d (.int .u8 0),.d (.int .u8 0),.d (.int .u8 0),.d (.int .u8 0),.d (.int .u8 0),.d (.int .u8 0),.d (.int .u8 0),.d (.int .u8 0),.d (.int .u8 0),.d (.int .u8 0),.d (.int .u8 0),.d (.int .u8 0)],.row 5 1 [.int .u8 (n / 16777216 % 256),.int .u8 (n / 65536 % 256),.int .u8 (n / 256 % 256),.int .u8 (n % 256),.int .u8 (m / 16777216 % 256),.int .u8 (m / 65536 % 256),.int .u8 (m / 256 % 256),.int .u8 (m % 256),.int .u8 (q.a),.int .u8 (q.b),.int .u8 (q.c),.int .u8 (q.d),.int .u8 (q.e),.int .u8 (q.f),.int .u8 (q.g),.int .u8 (q.h)] false,.none,.box [.d (.int .u8 (a'.c.a)),.d (.int .u8 (a'.c.b)),.d (.int .u8 (a'.c.c)),.d (.int .u8 (a'.c.d)),.d (.int .u8 (a'.c.e)),.d (.int .u8 (a'.c.f)),.d (.int .u8 (a'.c.g)),.d (.int .u8 (a'.c.h)),.d (.int .u8 (a'.d.a)),.d (.int .u8 (a'.d.b)),.d (.int .u8 (a'.d.c)),.d (.int .u8 (a'.d.d)),.d (.int .u8 (a'.d.e)),.d (.int .u8 (a'.d.f)),.d (.int .u8 (a'.d.g)),.d (.int .u8 (a'.d.h))]]⟩:=⟨⟨13,⟨c.a,c.b,c.c,c.d,c.e,c.f,c.g,c.h⟩,⟨d.a,d.b,d.c,d.d,q.e,d.f,d.g,d.h⟩⟩,⟨⟨by show 13≤16; decide,m0,m1,m2,m3,m4,m5,m6,m7,m8,m9,m10,m11,rfl,m13,m14,m15⟩,by show 16 - 13 < 16 - 12; decide⟩,rfl⟩
  have hz:([.int .u8 (n / 16777216 % 256),.int .u8 (n / 65536 % 256),.int .u8 (n / 256 % 256),.int .u8 (n % 256),.int .u8 (m / 16777216 % 256),.int .u8 (m / 65536 % 256),.int .u8 (m / 256 % 256),.int .u8 (m % 256),.int .u8 (q.a),.int .u8 (q.b),.int .u8 (q.c),.int .u8 (q.d),.int .u8 (q.e),.int .u8 (q.f),.int .u8 (q.g),.int .u8 (q.h)]:List Data)[(((12:Nat):Int)).toNat]?=some (.int .u8 (q.e)):=rfl
  refine sd ?_
  refine an ?_ ?_
  refine an ?_ ?_
  exact rfl
  refine an ?_ ?_
  exact rfl
  refine an ?_ ?_
  (show (0:Int)≤(↑(12:Nat):Int); omega)
  (show (↑(12:Nat):Int) < (↑(16:Nat):Int); omega)
  refine sd ?_
  refine ca hz ?_
  refine an ?_ ?_
  refine an ?_ ?_
  (show (0:Int)≤(↑(12:Nat):Int); omega)
  (show (↑(12:Nat):Int) < (↑(16:Nat):Int); omega)
  refine ar_add ?_ ?_
  refine an ?_ ?_
  (show (-9223372036854775808:Int)≤(↑(12:Nat):Int)+(1:Int); omega)
  (show (↑(12:Nat):Int)+(1:Int)≤(9223372036854775807:Int); omega)
  rotate_left
  all_goals exact fin
 | 13,_,m0,m1,m2,m3,m4,m5,m6,m7,m8,m9,m10,m11,m12,m13,m14,m15 =>
  have fin:∃ a':K16,((a'.n≤16∧Mix16 a'.n a'.c a'.d ⟨n / 16777216 % 256,n / 65536 % 256,n / 256 % 256,n % 256,m / 16777216 % 256,m / 65536 % 256,m / 256 % 256,m % 256⟩ q)∧16 - a'.n < 16 - 13)∧(⟨[(2,.ptr 1 0),(3,.sl 2 16),(4,.ptr 4 0),(5,.d (.int .i64 (((13:Nat):Int)+1)))],[.none,.box [.d (.int .u8 0),.d (.int .u8 0),.d (.int .u8 0),.d (.int .u8 0),.d (.int .u8 0),.d (.int .u8 0),.d (.int .u8 0),.d (.int .u8 0),.d (.int .u8 0),.d (.int .u8 0),.d (.int .u8 0),.d (.int .u8 0),.d (.int .u8 0),.d (.int .u8 0),.d (.int .u8 0),.d (.int .u8 0)],.row 5 1 [.int .u8 (n / 16777216 % 256),.int .u8 (n / 65536 % 256),.int .u8 (n / 256 % 256),.int .u8 (n % 256),.int .u8 (m / 16777216 % 256),.int .u8 (m / 65536 % 256),.int .u8 (m / 256 % 256),.int .u8 (m % 256),.int .u8 (q.a),.int .u8 (q.b),.int .u8 (q.c),.int .u8 (q.d),.int .u8 (q.e),.int .u8 (q.f),.int .u8 (q.g),.int .u8 (q.h)] false,.none,.box [.d (.int .u8 (c.a)),.d (.int .u8 (c.b)),.d (.int .u8 (c.c)),.d (.int .u8 (c.d)),.d (.int .u8 (c.e)),.d (.int .u8 (c.f)),.d (.int .u8 (c.g)),.d (.int .u8 (c.h)),.d (.int .u8 (d.a)),.d (.int .u8 (d.b)),.d (.int .u8 (d.c)),.d (.int .u8 (d.d)),.d (.int .u8 (d.e)),.d (.int .u8 (q.f)),.d (.int .u8 (d.g)),.d (.int .u8 (d.h))]]⟩:St)=⟨[(2,.ptr 1 0),(3,.sl 2 16),(4,.ptr 4 0),(5,.d (.int .i64 ((a'.n:Nat))))],[.none,.box [.d (.int .u8 0),.d (.int .u8 0),.d (.int .u8 0),.d (.int .u8 0),.d (.int .u8 0),.d (.int .u8 0),.d (.int .u8 0),.d (.int .u8 0),.d (.int .u8 0),.d (.int .u8 0),.d (.int .u8 0),.d (.int .u8 0),.d (.int .u8 0),.d (.int .u8 0),.d (.int .u8 0),.d (.int .u8 0)],.row 5 1 [.int .u8 (n / 16777216 % 256),.int .u8 (n / 65536 % 256),.int .u8 (n / 256 % 256),.int .u8 (n % 256),.int .u8 (m / 16777216 % 256),.int .u8 (m / 65536 % 256),.int .u8 (m / 256 % 256),.int .u8 (m % 256),.int .u8 (q.a),.int .u8 (q.b),.int .u8 (q.c),.int .u8 (q.d),.int .u8 (q.e),.int .u8 (q.f),.int .u8 (q.g),.int .u8 (q.h)] false,.none,.box [.d (.int .u8 (a'.c.a)),.d (.int .u8 (a'.c.b)),.d (.int .u8 (a'.c.c)),.d (.int .u8 (a'.c.d)),.d (.int .u8 (a'.c.e)),.d (.int .u8 (a'.c.f)),.d (.int .u8 (a'.c.g)),.d (.int .u8 (a'.c.h)),.d (.int .u8 (a'.d.a)),.d (.int .u8 (a'.d.b)),.d (.int .u8 (a'.d.c)),.d (.int .u8 (a'.d.d)),.d (.int .u8 (a'.d.e)),.d (.int .u8 (a'.d.f)),.d (.int .u8 (a'.d.g)),.d (.int .u8 (a'.d.h))]]⟩:=⟨⟨14,⟨c.a,c.b,c.c,c.d,c.e,c.f,c.g,c.h⟩,⟨d.a,d.b,d.c,d.d,d.e,q.f,d.g,d.h⟩⟩,⟨⟨by show 14≤16; decide,m0,m1,m2,m3,m4,m5,m6,m7,m8,m9,m10,m11,m12,rfl,m14,m15⟩,by show 16 - 14 < 16 - 13; decide⟩,rfl⟩
  have hz:([.int .u8 (n / 16777216 % 256),.int .u8 (n / 65536 % 256),.int .u8 (n / 256 % 256),.int .u8 (n % 256),.int .u8 (m / 16777216 % 256),.int .u8 (m / 65536 % 256),.int .u8 (m / 256 % 256),.int .u8 (m % 256),.int .u8 (q.a),.int .u8 (q.b),.int .u8 (q.c),.int .u8 (q.d),.int .u8 (q.e),.int .u8 (q.f),.int .u8 (q.g),.int .u8 (q.h)]:List Data)[(((13:Nat):Int)).toNat]?=some (.int .u8 (q.f)):=rfl
  refine sd ?_
  refine an ?_ ?_
  refine an ?_ ?_
  exact rfl
  refine an ?_ ?_
  exact rfl
  refine an ?_ ?_
  (show (0:Int)≤(↑(13:Nat):Int); omega)
  (show (↑(13:Nat):Int) < (↑(16:Nat):Int); omega)
  refine sd ?_
  refine ca hz ?_
  refine an ?_ ?_
  refine an ?_ ?_
  (show (0:Int)≤(↑(13:Nat):Int); omega)
  (show (↑(13:Nat):Int) < (↑(16:Nat):Int); omega)
  refine ar_add ?_ ?_
  refine an ?_ ?_
  (show (-9223372036854775808:Int)≤(↑(13:Nat):Int)+(1:Int); omega)
  (show (↑(13:Nat):Int)+(1:Int)≤(9223372036854775807:Int); omega)
  rotate_left
  all_goals exact fin
 | 14,_,m0,m1,m2,m3,m4,m5,m6,m7,m8,m9,m10,m11,m12,m13,m14,m15 =>
  have fin:∃ a':K16,((a'.n≤16∧Mix16 a'.n a'.c a'.d ⟨n / 16777216 % 256,n / 65536 % 256,n / 256 % 256,n % 256,m / 16777216 % 256,m / 65536 % 256,m / 256 % 256,m % 256⟩ q)∧16 - a'.n < 16 - 14)∧(⟨[(2,.ptr 1 0),(3,.sl 2 16),(4,.ptr 4 0),(5,.d (.int .i64 (((14:Nat):Int)+1)))],[.none,.box [.d (.int .u8 0),.d (.int .u8 0),.d (.int .u8 0),.d (.int .u8 0),.d (.int .u8 0),.d (.int .u8 0),.d (.int .u8 0),.d (.int .u8 0),.d (.int .u8 0),.d (.int .u8 0),.d (.int .u8 0),.d (.int .u8 0),.d (.int .u8 0),.d (.int .u8 0),.d (.int .u8 0),.d (.int .u8 0)],.row 5 1 [.int .u8 (n / 16777216 % 256),.int .u8 (n / 65536 % 256),.int .u8 (n / 256 % 256),.int .u8 (n % 256),.int .u8 (m / 16777216 % 256),.int .u8 (m / 65536 % 256),.int .u8 (m / 256 % 256),.int .u8 (m % 256),.int .u8 (q.a),.int .u8 (q.b),.int .u8 (q.c),.int .u8 (q.d),.int .u8 (q.e),.int .u8 (q.f),.int .u8 (q.g),.int .u8 (q.h)] false,.none,.box [.d (.int .u8 (c.a)),.d (.int .u8 (c.b)),.d (.int .u8 (c.c)),.d (.int .u8 (c.d)),.d (.int .u8 (c.e)),.d (.int .u8 (c.f)),.d (.int .u8 (c.g)),.d (.int .u8 (c.h)),.d (.int .u8 (d.a)),.d (.int .u8 (d.b)),.d (.int .u8 (d.c)),.d (.int .u8 (d.d)),.d (.int .u8 (d.e)),.d (.int .u8 (d.f)),.d (.int .u8 (q.g)),.d (.int .u8 (d.h))]]⟩:St)=⟨[(2,.ptr 1 0),(3,.sl 2 16),(4,.ptr 4 0),(5,.d (.int .i64 ((a'.n:Nat))))],[.none,.box [.d (.int .u8 0),.d (.int .u8 0),.d (.int .u8 0),.d (.int .u8 0),.d (.int .u8 0),.d (.int .u8 0),.d (.int .u8 0),.d (.int .u8 0),.d (.int .u8 0),.d (.int .u8 0),.d (.int .u8 0),.d (.int .u8 0),.d (.int .u8 0),.d (.int .u8 0),.d (.int .u8 0),.d (.int .u8 0)],.row 5 1 [.int .u8 (n / 16777216 % 256),.int .u8 (n / 65536 % 256),.int .u8 (n / 256 % 256),.int .u8 (n % 256),.int .u8 (m / 16777216 % 256),.int .u8 (m / 65536 % 256),.int .u8 (m / 256 % 256),.int .u8 (m % 256),.int .u8 (q.a),.int .u8 (q.b),.int .u8 (q.c),.int .u8 (q.d),.int .u8 (q.e),.int .u8 (q.f),.int .u8 (q.g),.int .u8 (q.h)] false,.none,.box [.d (.int .u8 (a'.c.a)),.d (.int .u8 (a'.c.b)),.d (.int .u8 (a'.c.c)),.d (.int .u8 (a'.c.d)),.d (.int .u8 (a'.c.e)),.d (.int .u8 (a'.c.f)),.d (.int .u8 (a'.c.g)),.d (.int .u8 (a'.c.h)),.d (.int .u8 (a'.d.a)),.d (.int .u8 (a'.d.b)),.d (.int .u8 (a'.d.c)),.d (.int .u8 (a'.d.d)),.d (.int .u8 (a'.d.e)),.d (.int .u8 (a'.d.f)),.d (.int .u8 (a'.d.g)),.d (.int .u8 (a'.d.h))]]⟩:=⟨⟨15,⟨c.a,c.b,c.c,c.d,c.e,c.f,c.g,c.h⟩,⟨d.a,d.b,d.c,d.d,d.e,d.f,q.g,d.h⟩⟩,⟨⟨by show 15≤16; decide,m0,m1,m2,m3,m4,m5,m6,m7,m8,m9,m10,m11,m12,m13,rfl,m15⟩,by show 16 - 15 < 16 - 14; decide⟩,rfl⟩
  have hz:([.int .u8 (n / 16777216 % 256),.int .u8 (n / 65536 % 256),.int .u8 (n / 256 % 256),.int .u8 (n % 256),.int .u8 (m / 16777216 % 256),.int .u8 (m / 65536 % 256),.int .u8 (m / 256 % 256),.int .u8 (m % 256),.int .u8 (q.a),.int .u8 (q.b),.int .u8 (q.c),.int .u8 (q.d),.int .u8 (q.e),.int .u8 (q.f),.int .u8 (q.g),.int .u8 (q.h)]:List Data)[(((14:Nat):Int)).toNat]?=some (.int .u8 (q.g)):=rfl
  refine sd ?_
  refine an ?_ ?_
  refine an ?_ ?_
  exact rfl
  refine an ?_ ?_
  exact rfl
  refine an ?_ ?_
  (show (0:Int)≤(↑(14:Nat):Int); omega)
  (show (↑(14:Nat):Int) < (↑(16:Nat):Int); omega)
  refine sd ?_
  refine ca hz ?_
  refine an ?_ ?_
  refine an ?_ ?_
  (show (0:Int)≤(↑(14:Nat):Int); omega)
  (show (↑(14:Nat):Int) < (↑(16:Nat):Int); omega)
  refine ar_add ?_ ?_
  refine an ?_ ?_
  (show (-9223372036854775808:Int)≤(↑(14:Nat):Int)+(1:Int); omega)
  (show (↑(14:Nat):Int)+(1:Int)≤(9223372036854775807:Int); omega)
  rotate_left
  all_goals exact fin
 | 15,_,m0,m1,m2,m3,m4,m5,m6,m7,m8,m9,m10,m11,m12,m13,m14,m15 =>
  have fin:∃ a':K16,((a'.n≤16∧Mix16 a'.n a'.c a'.d ⟨n / 16777216 % 256,n / 65536 % 256,n / 256 % 256,n % 256,m / 16777216 % 256,m / 65536 % 256,m / 256 % 256,m % 256⟩ q)∧16 - a'.n < 16 - 15)∧(⟨[(2,.ptr 1 0),(3,.sl 2 16),(4,.ptr 4 0),(5,.d (.int .i64 (((15:Nat):Int)+1)))],[.none,.box [.d (.int .u8 0),.d (.int .u8 0),.d (.int .u8 0),.d (.int .u8 0),.d (.int .u8 0),.d (.int .u8 0),.d (.int .u8 0),.d (.int .u8 0),.d (.int .u8 0),.d (.int .u8 0),.d (.int .u8 0),.d (.int .u8 0),.d (.int .u8 0),.d (.int .u8 0),.d (.int .u8 0),.d (.int .u8 0)],.row 5 1 [.int .u8 (n / 16777216 % 256),.int .u8 (n / 65536 % 256),.int .u8 (n / 256 % 256),.int .u8 (n % 256),.int .u8 (m / 16777216 % 256),.int .u8 (m / 65536 % 256),.int .u8 (m / 256 % 256),.int .u8 (m % 256),.int .u8 (q.a),.int .u8 (q.b),.int .u8 (q.c),.int .u8 (q.d),.int .u8 (q.e),.int .u8 (q.f),.int .u8 (q.g),.int .u8 (q.h)] false,.none,.box [.d (.int .u8 (c.a)),.d (.int .u8 (c.b)),.d (.int .u8 (c.c)),.d (.int .u8 (c.d)),.d (.int .u8 (c.e)),.d (.int .u8 (c.f)),.d (.int .u8 (c.g)),.d (.int .u8 (c.h)),.d (.int .u8 (d.a)),.d (.int .u8 (d.b)),.d (.int .u8 (d.c)),.d (.int .u8 (d.d)),.d (.int .u8 (d.e)),.d (.int .u8 (d.f)),.d (.int .u8 (d.g)),.d (.int .u8 (q.h))]]⟩:St)=⟨[(2,.ptr 1 0),(3,.sl 2 16),(4,.ptr 4 0),(5,.d (.int .i64 ((a'.n:Nat))))],[.none,.box [.d (.int .u8 0),.d (.int .u8 0),.d (.int .u8 0),.d (.int .u8 0),.d (.int .u8 0),.d (.int .u8 0),.d (.int .u8 0),.d (.int .u8 0),.d (.int .u8 0),.d (.int .u8 0),.d (.int .u8 0),.d (.int .u8 0),.d (.int .u8 0),.d (.int .u8 0),.d (.int .u8 0),.d (.int .u8 0)],.row 5 1 [.int .u8 (n / 16777216 % 256),.int .u8 (n / 65536 % 256),.int .u8 (n / 256 % 256),.int .u8 (n % 256),.int .u8 (m / 16777216 % 256),.int .u8 (m / 65536 % 256),.int .u8 (m / 256 % 256),.int .u8 (m % 256),.int .u8 (q.a),.int .u8 (q.b),.int .u8 (q.c),.int .u8 (q.d),.int .u8 (q.e),.int .u8 (q.f),.int .u8 (q.g),.int .u8 (q.h)] false,.none,.box [.d (.int .u8 (a'.c.a)),.d (.int .u8 (a'.c.b)),.d (.int .u8 (a'.c.c)),.d (.int .u8 (a'.c.d)),.d (.int .u8 (a'.c.e)),.d (.int .u8 (a'.c.f)),.d (.int .u8 (a'.c.g)),.d (.int .u8 (a'.c.h)),.d (.int .u8 (a'.d.a)),.d (.int .u8 (a'.d.b)),.d (.int .u8 (a'.d.c)),.d (.int .u8 (a'.d.d)),.d (.int .u8 (a'.d.e)),.d (.int .u8 (a'.d.f)),.d (.int .u8 (a'.d.g)),.d (.int .u8 (a'.d.h))]]⟩:=⟨⟨16,⟨c.a,c.b,c.c,c.d,c.e,c.f,c.g,c.h⟩,⟨d.a,d.b,d.c,d.d,d.e,d.f,d.g,q.h⟩⟩,⟨⟨by show 16≤16; decide,m0,m1,m2,m3,m4,m5,m6,m7,m8,m9,m10,m11,m12,m13,m14,rfl⟩,by show 16 - 16 < 16 - 15; decide⟩,rfl⟩
  have hz:([.int .u8 (n / 16777216 % 256),.int .u8 (n / 65536 % 256),.int .u8 (n / 256 % 256),.int .u8 (n % 256),.int .u8 (m / 16777216 % 256),.int .u8 (m / 65536 % 256),.int .u8 (m / 256 % 256),.int .u8 (m % 256),.int .u8 (q.a),.int .u8 (q.b),.int .u8 (q.c),.int .u8 (q.d),.int .u8 (q.e),.int .u8 (q.f),.int .u8 (q.g),.int .u8 (q.h)]:List Data)[(((15:Nat):Int)).toNat]?=some (.int .u8 (q.h)):=rfl
  refine sd ?_
  refine an ?_ ?_
  refine an ?_ ?_
  exact rfl
  refine an ?_ ?_
  exact rfl
  refine an ?_ ?_
  (show (0:Int)≤(↑(15:Nat):Int); omega)
  (show (↑(15:Nat):Int) < (↑(16:Nat):Int); omega)
  refine sd ?_
  refine ca hz ?_
  refine an ?_ ?_
  refine an ?_ ?_
  (show (0:Int)≤(↑(15:Nat):Int); omega)
  (show (↑(15:Nat):Int) < (↑(16:Nat):Int); omega)
  refine ar_add ?_ ?_
  refine an ?_ ?_
  (show (-9223372036854775808:Int)≤(↑(15:Nat):Int)+(1:Int); omega)
  (show (↑(15:Nat):Int)+(1:Int)≤(9223372036854775807:Int); omega)
  rotate_left
  all_goals exact fin
 | 16,_,m0,m1,m2,m3,m4,m5,m6,m7,m8,m9,m10,m11,m12,m13,m14,m15 =>
  have e:resV [.agg [.int .u8 c.a,.int .u8 c.b,.int .u8 c.c,.int .u8 c.d,.int .u8 c.e,.int .u8 c.f,.int .u8 c.g,.int .u8 c.h,.int .u8 d.a,.int .u8 d.b,.int .u8 d.c,.int .u8 d.d,.int .u8 d.e,.int .u8 d.f,.int .u8 d.g,.int .u8 d.h]]=resV [.agg [.int .u8 (n / 16777216 % 256),.int .u8 (n / 65536 % 256),.int .u8 (n / 256 % 256),.int .u8 (n % 256),.int .u8 (m / 16777216 % 256),.int .u8 (m / 65536 % 256),.int .u8 (m / 256 % 256),.int .u8 (m % 256),.int .u8 (q.a),.int .u8 (q.b),.int .u8 (q.c),.int .u8 (q.d),.int .u8 (q.e),.int .u8 (q.f),.int .u8 (q.g),.int .u8 (q.h)]]:=by
   rw [(show c.a=n / 16777216 % 256 from m0),(show c.b=n / 65536 % 256 from m1),(show c.c=n / 256 % 256 from m2),(show c.d=n % 256 from m3),(show c.e=m / 16777216 % 256 from m4),(show c.f=m / 65536 % 256 from m5),(show c.g=m / 256 % 256 from m6),(show c.h=m % 256 from m7),(show d.a=q.a from m8),(show d.b=q.b from m9),(show d.c=q.c from m10),(show d.d=q.d from m11),(show d.e=q.e from m12),(show d.f=q.f from m13),(show d.g=q.g from m14),(show d.h=q.h from m15)]
  refine sd ?_
  assumption
  all_goals exact e
 | _+17,hk,_,_,_,_,_,_,_,_,_,_,_,_,_,_,_,_=>exact absurd hk (by omega)
end Vc
