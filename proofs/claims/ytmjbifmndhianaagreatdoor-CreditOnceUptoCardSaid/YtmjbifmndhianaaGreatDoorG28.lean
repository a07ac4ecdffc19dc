import Derived.Test.YtmjbifmndhianaaGreatDoorG19
import Derived.Test.YtmjbifmndhianaaGreatDoorG24
set_option linter.unusedSectionVars false
set_option linter.unusedVariables false
set_option linter.unusedSimpArgs false
set_option maxRecDepth 10000
set_option maxHeartbeats 4000000
namespace Vc
open Go Go.Proofs
def jr29:AFun:=⟨62,8,[.cell 4 22 true,.tmp 5,.tmp 6],
 (.seq
 (.reg [0,1] [⟨some 2,.cbx 0 22 (.tmp 0),none⟩,
  ⟨some 4,.alloc 1 [(.d (.int .i64 0)),(.d (.int .i64 0)),(.d (.int .i64 0)),(.d (.int .i64 0)),(.d (.int .u8 0)),(.d (.int .u8 0)),(.d (.int .u8 0)),(.d (.int .u8 0)),(.d (.int .u8 0)),(.d (.int .u8 0)),(.d (.int .u8 0)),(.d (.int .u8 0)),(.d (.int .u8 0)),(.d (.int .u8 0)),(.d (.int .u8 0)),(.d (.int .u8 0)),(.d (.int .u8 0)),(.d (.int .u8 0)),(.d (.int .u8 0)),(.d (.int .u8 0)),(.d (.bool false)),(.nils 1)],none⟩,
  ⟨some 5,.mov (.cst (.nils 1)),none⟩,
  ⟨some 6,.mov (.cst (.d (.int .i64 0))),none⟩])
 (.seq
  (.seq
  (.reg [2] [⟨some 15,.ld true 22 (.tmp 2),none⟩,
   ⟨some 16,.call 25 [(.tmp 15)],none⟩,
   ⟨some 17,.mov (.tmp 1),none⟩,
   ⟨some 18,.len (.tmp 17),none⟩,
   ⟨some 19,.cmp .gtr (.tmp 18) (.cst (.d (.int .i64 256))),none⟩,
   ⟨some 20,.call 92 [(.tmp 19),(.cst (.d (.int .i64 5)))],none⟩,
   ⟨some 21,.bsl 2 30 1 2 [(.int .i64 0),(.int .i64 0)] [(0,(.tmp 16)),(1,(.tmp 20))],none⟩,
   ⟨some 22,.call 90 [(.tmp 21)],none⟩,
   ⟨some 7,.mov (.tmp 22),none⟩])
  (.seq
   (.reg [] [⟨some 23,.mov (.tmp 7),none⟩,
    ⟨some 24,.cmp .neq (.tmp 23) (.cst (.d (.int .i64 0))),none⟩])
   (.cond (.tmp 24)
   (.seq
    (.reg [] [⟨some 25,.build [(.d (.int .i64 0)),(.d (.int .i64 0)),(.d (.int .i64 0)),(.d (.int .i64 0)),(.d (.int .u8 0)),(.d (.int .u8 0)),(.d (.int .u8 0)),(.d (.int .u8 0)),(.d (.int .u8 0)),(.d (.int .u8 0)),(.d (.int .u8 0)),(.d (.int .u8 0)),(.d (.int .u8 0)),(.d (.int .u8 0)),(.d (.int .u8 0)),(.d (.int .u8 0)),(.d (.int .u8 0)),(.d (.int .u8 0)),(.d (.int .u8 0)),(.d (.int .u8 0)),(.d (.bool false)),(.nils 1)] [],none⟩,
     ⟨some 26,.mov (.tmp 7),none⟩,
     ⟨none,.st 22 (.tmp 4) (.tmp 25),none⟩,
     ⟨some 5,.mov (.cst (.nils 1)),none⟩,
     ⟨some 6,.mov (.tmp 26),none⟩])
    .ret)
   .skip)))
  (.seq
  (.seq
   (.reg [] [⟨some 27,.mov (.tmp 1),none⟩,
    ⟨some 28,.call 101 [(.tmp 27),(.cst (.d (.fn (.func 99) [])))],none⟩,
    ⟨some 29,.call 90 [(.tmp 28)],none⟩,
    ⟨some 8,.mov (.tmp 29),none⟩])
   (.seq
   (.reg [] [⟨some 30,.mov (.tmp 8),none⟩,
    ⟨some 31,.cmp .neq (.tmp 30) (.cst (.d (.int .i64 0))),none⟩])
   (.cond (.tmp 31)
    (.seq
    (.reg [] [⟨some 32,.build [(.d (.int .i64 0)),(.d (.int .i64 0)),(.d (.int .i64 0)),(.d (.int .i64 0)),(.d (.int .u8 0)),(.d (.int .u8 0)),(.d (.int .u8 0)),(.d (.int .u8 0)),(.d (.int .u8 0)),(.d (.int .u8 0)),(.d (.int .u8 0)),(.d (.int .u8 0)),(.d (.int .u8 0)),(.d (.int .u8 0)),(.d (.int .u8 0)),(.d (.int .u8 0)),(.d (.int .u8 0)),(.d (.int .u8 0)),(.d (.int .u8 0)),(.d (.int .u8 0)),(.d (.bool false)),(.nils 1)] [],none⟩,
     ⟨some 33,.mov (.tmp 8),none⟩,
     ⟨none,.st 22 (.tmp 4) (.tmp 32),none⟩,
     ⟨some 5,.mov (.cst (.nils 1)),none⟩,
     ⟨some 6,.mov (.tmp 33),none⟩])
    .ret)
    .skip)))
  (.seq
   (.reg [3] [⟨some 34,.ld true 22 (.tmp 2),none⟩,
    ⟨some 35,.call 93 [(.tmp 34)],none⟩,
    ⟨some 9,.alloc 3 [(.d (.int .i64 0)),(.d (.int .i64 0)),(.d (.int .i64 0)),(.d (.int .i64 0)),(.d (.int .u8 0)),(.d (.int .u8 0)),(.d (.int .u8 0)),(.d (.int .u8 0)),(.d (.int .u8 0)),(.d (.int .u8 0)),(.d (.int .u8 0)),(.d (.int .u8 0)),(.d (.int .u8 0)),(.d (.int .u8 0)),(.d (.int .u8 0)),(.d (.int .u8 0)),(.d (.int .u8 0)),(.d (.int .u8 0)),(.d (.int .u8 0)),(.d (.int .u8 0)),(.d (.bool false)),(.nils 1)],none⟩,
    ⟨none,.st 22 (.tmp 9) (.tmp 35),none⟩])
   (.seq
   (.reg [] [⟨some 10,.mov (.cst (.nils 11)),none⟩])
   (.seq
    (.seq
    (.reg [] [⟨some 36,.mov (.tmp 1),none⟩,
     ⟨some 37,.len (.tmp 36),none⟩,
     ⟨some 38,.mov (.cst (.d (.int .i64 0))),none⟩])
    (.post [4,9,10] [0,1,2,3,4,5,6,7]
     (.block 0
     (.asrow 7 171 11 10
      (.keep [4,9,10,36,37,38] [0,1,2,3]
      (.loop
       (.post [4,9,10,36,37,38] [4,5,6,7]
       (.seq
        (.reg [] [⟨some 39,.cmp .lss (.tmp 38) (.tmp 37),none⟩])
        (.seq
        (.cond (.tmp 39)
         .skip
         (.exit 0))
        (.seq
         (.block 1
         (.seq
          (.reg [4] [⟨some 40,.mov (.tmp 38),none⟩,
           ⟨some 41,.ixa 10 (.tmp 36) (.tmp 38),none⟩,
           ⟨some 42,.ld true 10 (.tmp 41),none⟩,
           ⟨some 12,.alloc 4 [(.d (.int .i64 0)),(.d (.int .i64 0)),(.d (.int .u8 0)),(.d (.int .u8 0)),(.d (.int .u8 0)),(.d (.int .u8 0)),(.d (.int .u8 0)),(.d (.int .u8 0)),(.d (.int .u8 0)),(.d (.int .u8 0))],none⟩,
           ⟨some 11,.mov (.tmp 40),none⟩,
           ⟨none,.st 10 (.tmp 12) (.tmp 42),none⟩])
          (.seq
          (.reg [5] [⟨some 44,.ld true 22 (.tmp 9),none⟩,
           ⟨some 45,.ld true 10 (.tmp 12),none⟩,
           ⟨some 46,.call 100 [(.tmp 44),(.tmp 45)],none⟩,
           ⟨some 43,.mov (.tmp 46),none⟩,
           ⟨some 47,.ext 0 (.tmp 43),none⟩,
           ⟨some 48,.ext 1 (.tmp 43),none⟩,
           ⟨some 13,.alloc 5 [(.d (.int .i64 0)),(.d (.int .i64 0)),(.d (.int .i64 0)),(.d (.int .i64 0)),(.d (.int .u8 0)),(.d (.int .u8 0)),(.d (.int .u8 0)),(.d (.int .u8 0)),(.d (.int .u8 0)),(.d (.int .u8 0)),(.d (.int .u8 0)),(.d (.int .u8 0)),(.d (.int .u8 0)),(.d (.int .u8 0)),(.d (.int .u8 0)),(.d (.int .u8 0)),(.d (.int .u8 0)),(.d (.int .u8 0)),(.d (.int .u8 0)),(.d (.int .u8 0)),(.d (.bool false)),(.nils 1)],none⟩,
           ⟨none,.st 22 (.tmp 13) (.tmp 47),none⟩,
           ⟨some 14,.mov (.tmp 48),none⟩])
          (.seq
           (.reg [] [⟨some 49,.mov (.tmp 14),none⟩,
            ⟨some 50,.cmp .eql (.tmp 49) (.cst (.d (.int .i64 0))),none⟩])
           (.cond (.tmp 50)
           (.regd [6,7] [⟨some 51,.ld true 22 (.tmp 13),none⟩,
            ⟨some 52,.mov (.tmp 10),none⟩,
            ⟨some 53,.ld true 10 (.tmp 12),none⟩,
            ⟨some 54,.mov (.tmp 11),none⟩,
            ⟨some 55,.build [(.d (.int .i64 0)),(.d (.int .i64 0)),(.d (.int .u8 0)),(.d (.int .u8 0)),(.d (.int .u8 0)),(.d (.int .u8 0)),(.d (.int .u8 0)),(.d (.int .u8 0)),(.d (.int .u8 0)),(.d (.int .u8 0)),(.d (.int .i64 0))] [(0,10,(.tmp 53)),(10,1,(.tmp 54))],none⟩,
            ⟨some 56,.bsl 6 171 11 1 [(.agg [(.int .i64 0),(.int .i64 0),(.int .u8 0),(.int .u8 0),(.int .u8 0),(.int .u8 0),(.int .u8 0),(.int .u8 0),(.int .u8 0),(.int .u8 0),(.int .i64 0)])] [(0,(.tmp 55))],none⟩,
            ⟨some 57,.app 7 171 11 32 (.tmp 52) (.tmp 56),none⟩,
            ⟨none,.st 22 (.tmp 9) (.tmp 51),none⟩,
            ⟨some 10,.mov (.tmp 57),none⟩] [(0,1),(0,2),(1,2),(0,3),(1,3),(2,3),(0,4),(1,4),(0,5),(1,5),(0,6)])
           .skip)))))
         (.reg [] [⟨some 58,.arith .add .i64 (.tmp 38) (.cst (.d (.int .i64 1))),none⟩,
          ⟨some 38,.mov (.tmp 58),none⟩])))))))))))
    (.seq
    (.regd [] [⟨some 59,.ld true 22 (.tmp 9),none⟩,
     ⟨some 60,.mov (.tmp 10),none⟩,
     ⟨some 61,.call 102 [(.tmp 60),(.cst (.d (.fn (.func 103) [])))],none⟩,
     ⟨none,.st 22 (.tmp 4) (.tmp 59),none⟩,
     ⟨some 5,.mov (.tmp 61),none⟩,
     ⟨some 6,.mov (.cst (.d (.int .i64 0))),none⟩] [(0,1),(0,2)])
    .ret)))))))⟩
def allX (c:Bool):List Tk→Int→Ac→List Int→Ac × List Int
 | [],_,X,L=>(X,L)
 | x::r,i,X,L=>bif crE X c x.n x.m x.q != 0 then allX c r (i+1) X L else allX c r (i+1) (crO X x.n x.m) (L++[i])
theorem wi_in {n a b:Int} (h:a≤n) (h2:n≤b):within3 n a b=0:=by
 unfold within3
 rw [decide_eq_false (by omega),decide_eq_false (by omega)]; rfl
theorem crE_0 {a:Ac} {c:Bool} {n m:Int} {q:Ky} (h:crE a c n m q=0):va a c n m q=true∧n∉a.u∧a.u.length≠256∧a.b+(m - pay a m)≤1000000000000:=by
 unfold crE at h
 have hlen:(ints a.u).length=a.u.length:=List.length_map _
 cases hv:va a c n m q with
 | false=>rw [hv] at h; cases h
 | true =>
  rw [hv] at h
  have h:crR a n m=0:=h
  refine ⟨rfl,fun hm=>?_,fun he=>?_,?_⟩
  ·have h2:=firstOf_zero h (bif a.u.contains n then 9 else 0) (by simp)
   rw [List.contains_iff_mem.2 hm] at h2; cases h2
  ·have h2:=firstOf_zero h (bif ((((ints a.u).length:Nat):Int)==256) then 5 else 0) (by simp)
   rw [hlen,he] at h2; cases h2
  ·have h2:=firstOf_zero h (bif decide (1000000000000 - (m - pay a m) < a.b) then 4 else 0) (by simp)
   by_cases e:1000000000000 - (m - pay a m) < a.b
   ·rw [decide_eq_true e] at h2; cases h2
   ·omega
theorem crO_ok {a:Ac} {c:Bool} {n m:Int} {q:Ky} (hA:ckA a c=0) (ht:ckT n m=0) (h:crE a c n m q=0):ckA (crO a n m) c=0:=by
 obtain ⟨ht1,ht2⟩:=ckT_b ht
 obtain ⟨_,hnu,h256,hb2⟩:=crE_0 h
 have hl:=ckA_len hA
 have hb:=(ckA_b hA).1
 obtain ⟨hd,hs0,hs1⟩:=ckA_ds hA
 obtain ⟨_,hp0,hp1,hp2,_⟩:=pay_b hA ht2.1 ht2.2
 obtain ⟨hasc,hrg⟩:=ckA_asc hA
 have hF:=ckA_F hA
 have hlen:(ints (insI n a.u)).length=a.u.length+1:=by unfold ints; rw [List.length_map,insI_len]
 have hF2:ckF (crO a n m) c=0:=by
  have e3:=firstOf_zero hF (within3 a.s 0 100) (by simp)
  have e4:=firstOf_zero hF (within3 a.e 0 100000000) (by simp)
  have e5:=firstOf_zero hF (bif (bif c then false else !(kz a.n)) then 1 else 0) (by simp)
  show firstOf [within3 (a.b+(m - pay a m)) (-1000000000000) 1000000000000,within3 (a.d - pay a m) 0 1000000000000,within3 a.s 0 100,within3 a.e 0 100000000,bif (bif c then false else !(kz a.n)) then 1 else 0,bif decide ((256:Int) < (((ints (insI n a.u)).length:Nat):Int)) then 5 else 0]=0
  rw [e3,e4,e5,wi_in (by omega) hb2,wi_in (by omega) (by omega),hlen,decide_eq_false (by omega)]; rfl
 rw [ckA_0 hF2]
 show ckU (insI n a.u) 0=0
 refine (ckU_asc (Int.le_refl 0)).2 ⟨insI_asc n hasc hnu,fun x hx=>?_⟩
 rcases (insI_mem n a.u x).1 hx with e | e
 ·omega
 ·exact hrg x e
theorem ixs_app (A:List (Tk × Int)) (x:Tk) (k:Int):ixs (A++[(x,k)])=ixs A++[Data.agg [.int .i64 x.n,.int .i64 x.m,.int .u8 x.q.a,.int .u8 x.q.b,.int .u8 x.q.c,.int .u8 x.q.d,.int .u8 x.q.e,.int .u8 x.q.f,.int .u8 x.q.g,.int .u8 x.q.h,.int .i64 k]]:=List.map_append
structure P29 where
 k:Nat
 X:Ac
 L:List (Tk × Int)
structure P34 where
 k:Nat
 X:Ac
 L:List Int
theorem ck_all {l:List Tk} (h:firstOf (l.map ckt)=0):∀ x∈l,ckT x.n x.m=0:=fun x hx=>firstOf_zero h (ckt x) (List.mem_map_of_mem hx)
theorem c29 (a:Ac) (c:Bool) (l:List Tk) (hla:a.u.length≤1048576) (hl:l.length≤200000) (hk:a.k.ok) (hn:a.n.ok) (hA:ckA a c=0) (hE:tksE l=0):CallDet Tryz.prog 29 [.d (.agg [.int .i64 (a.b),.int .i64 (a.d),.int .i64 a.s,.int .i64 a.e,.int .u8 a.k.a,.int .u8 a.k.b,.int .u8 a.k.c,.int .u8 a.k.d,.int .u8 a.k.e,.int .u8 a.k.f,.int .u8 a.k.g,.int .u8 a.k.h,.int .u8 a.n.a,.int .u8 a.n.b,.int .u8 a.n.c,.int .u8 a.n.d,.int .u8 a.n.e,.int .u8 a.n.f,.int .u8 a.n.g,.int .u8 a.n.h,.bool c,.slice 1 (ints a.u)]),.d (.slice 10 (tks l))] [.agg [.int .i64 ((allX c l 0 a []).1.b),.int .i64 ((allX c l 0 a []).1.d),.int .i64 (allX c l 0 a []).1.s,.int .i64 (allX c l 0 a []).1.e,.int .u8 (allX c l 0 a []).1.k.a,.int .u8 (allX c l 0 a []).1.k.b,.int .u8 (allX c l 0 a []).1.k.c,.int .u8 (allX c l 0 a []).1.k.d,.int .u8 (allX c l 0 a []).1.k.e,.int .u8 (allX c l 0 a []).1.k.f,.int .u8 (allX c l 0 a []).1.k.g,.int .u8 (allX c l 0 a []).1.k.h,.int .u8 (allX c l 0 a []).1.n.a,.int .u8 (allX c l 0 a []).1.n.b,.int .u8 (allX c l 0 a []).1.n.c,.int .u8 (allX c l 0 a []).1.n.d,.int .u8 (allX c l 0 a []).1.n.e,.int .u8 (allX c l 0 a []).1.n.f,.int .u8 (allX c l 0 a []).1.n.g,.int .u8 (allX c l 0 a []).1.n.h,.bool c,.slice 1 (ints (allX c l 0 a []).1.u)],.slice 1 (ints (allX c l 0 a []).2),.int .i64 0]:=by
 have hll:=tks_len l
 have h256:¬ (256:Int) < (((tks l).length:Nat):Int):=fun h=>by unfold tksE at hE; rw [decide_eq_true h] at hE; cases hE
 have hE2:firstOf (l.map ckt)=0:=by unfold tksE at hE; rw [decide_eq_false h256] at hE; exact hE
 have hT:=ck_all hE2
 have c25_:=c25 a c hla
 rw [hA] at c25_
 have c93_:=c93 a c hla
 have c101_:=c101 l (by omega)
 have c90_:=c90 (l.map ckt) (by rw [List.length_map]; omega)
 rw [hE2] at c90_
 have c90_0:CallDet Tryz.prog 90 [.d (.slice 1 [.int .i64 0,.int .i64 (bif decide ((256:Int) < (((tks l).length:Nat):Int)) then 5 else 0)])] [.int .i64 (firstOf [0,bif decide ((256:Int) < (((tks l).length:Nat):Int)) then 5 else 0])]:=c90 [0,bif decide ((256:Int) < (((tks l).length:Nat):Int)) then 5 else 0] (by simp)
 rw [show firstOf [(0:Int),bif decide ((256:Int) < (((tks l).length:Nat):Int)) then 5 else 0]=0 by rw [decide_eq_false h256]; rfl] at c90_0
 refine call_of_vc (x:=jr29) (by kernel_rfl) rfl ?_
 refine ca c25_ ?_
 refine sd ?_
 refine ca (c92 _ _) ?_
 refine sd ?_
 refine sd ?_
 refine ca c90_0 ?_
 refine sd ?_
 refine ca c101_ ?_
 refine ca c90_ ?_
 refine sd ?_
 refine ca c93_ ?_
 rotate_left
 refine loop_st (fun p:P29=>⟨[(4,.ptr 1 0),(9,.ptr 3 0),(10,.sl 7 (ixs p.L).length),(36,.d (.slice 10 (tks l))),(37,.d (.int .i64 (((tks l).length:Nat):Int))),(38,.d (.int .i64 ((p.k:Nat))))],[.none,.box [.d (.int .i64 0),.d (.int .i64 0),.d (.int .i64 0),.d (.int .i64 0),.d (.int .u8 0),.d (.int .u8 0),.d (.int .u8 0),.d (.int .u8 0),.d (.int .u8 0),.d (.int .u8 0),.d (.int .u8 0),.d (.int .u8 0),.d (.int .u8 0),.d (.int .u8 0),.d (.int .u8 0),.d (.int .u8 0),.d (.int .u8 0),.d (.int .u8 0),.d (.int .u8 0),.d (.int .u8 0),.d (.bool false),.nils 1],.none,.box [.d (.int .i64 (p.X.b)),.d (.int .i64 (p.X.d)),.d (.int .i64 (p.X.s)),.d (.int .i64 (p.X.e)),.d (.int .u8 p.X.k.a),.d (.int .u8 p.X.k.b),.d (.int .u8 p.X.k.c),.d (.int .u8 p.X.k.d),.d (.int .u8 p.X.k.e),.d (.int .u8 p.X.k.f),.d (.int .u8 p.X.k.g),.d (.int .u8 p.X.k.h),.d (.int .u8 p.X.n.a),.d (.int .u8 p.X.n.b),.d (.int .u8 p.X.n.c),.d (.int .u8 p.X.n.d),.d (.int .u8 p.X.n.e),.d (.int .u8 p.X.n.f),.d (.int .u8 p.X.n.g),.d (.int .u8 p.X.n.h),.d (.bool c),.d (.slice 1 (ints p.X.u))],.none,.none,.none,.row 171 11 (ixs p.L) false]⟩) (fun p=>(p.k≤l.length∧p.L.length≤p.k)∧(ckA p.X c=0∧p.X.k.ok∧p.X.n.ok)∧allX c l 0 a []=allX c (l.drop p.k) (p.k:Int) p.X (p.L.map Prod.snd)) (fun p=>l.length - p.k) ⟨0,a,[]⟩ rfl ⟨⟨Nat.zero_le _,Nat.zero_le _⟩,⟨hA,hk,hn⟩,rfl⟩ ?_
 rintro ⟨k,X,L⟩ ⟨⟨hkl,hLl⟩,⟨hX,hXk,hXn⟩,hi⟩
 have hkl:k≤l.length:=hkl
 have hLl:L.length≤k:=hLl
 have hX:ckA X c=0:=hX
 have hXk:X.k.ok:=hXk
 have hXn:X.n.ok:=hXn
 have hi:allX c l 0 a []=allX c (l.drop k) (k:Int) X (L.map Prod.snd):=hi
 have hil:(ixs L).length=L.length:=ixs_len L
 dsimp only
 by_cases hkn:k < l.length
 ·refine Exists.elim (get_lt l hkn) fun x hx=>?_
  have hx1:=tks_at hx
  have hct:=hT x (List.mem_of_getElem? hx)
  have c100_:CallDet Tryz.prog 100 [.d (.agg [.int .i64 (X.b),.int .i64 (X.d),.int .i64 X.s,.int .i64 X.e,.int .u8 X.k.a,.int .u8 X.k.b,.int .u8 X.k.c,.int .u8 X.k.d,.int .u8 X.k.e,.int .u8 X.k.f,.int .u8 X.k.g,.int .u8 X.k.h,.int .u8 X.n.a,.int .u8 X.n.b,.int .u8 X.n.c,.int .u8 X.n.d,.int .u8 X.n.e,.int .u8 X.n.f,.int .u8 X.n.g,.int .u8 X.n.h,.bool c,.slice 1 (ints X.u)]),.d (.agg [.int .i64 x.n,.int .i64 x.m,.int .u8 x.q.a,.int .u8 x.q.b,.int .u8 x.q.c,.int .u8 x.q.d,.int .u8 x.q.e,.int .u8 x.q.f,.int .u8 x.q.g,.int .u8 x.q.h])] _:=c100 X c x.n x.m x.q hXk hXn hX hct
  rw [drop_at hx,allX] at hi
  by_cases h0:crE X c x.n x.m x.q=0
  ·rw [h0] at hi c100_
   have hO:=crO_ok hX hct h0
   have fin:∃ a':P29,(((a'.k≤l.length∧a'.L.length≤a'.k)∧(ckA a'.X c=0∧a'.X.k.ok∧a'.X.n.ok)∧allX c l 0 a []=allX c (l.drop a'.k) (a'.k:Int) a'.X (a'.L.map Prod.snd))∧l.length - a'.k < l.length - k)∧(⟨[(4,.ptr 1 0),(9,.ptr 3 0),(10,.sl 7 (ixs L++[Data.agg [.int .i64 x.n,.int .i64 x.m,.int .u8 x.q.a,.int .u8 x.q.b,.int .u8 x.q.c,.int .u8 x.q.d,.int .u8 x.q.e,.int .u8 x.q.f,.int .u8 x.q.g,.int .u8 x.q.h,.int .i64 (k:Int)]]).length),(36,.d (.slice 10 (tks l))),(37,.d (.int .i64 (((tks l).length:Nat):Int))),(38,.d (.int .i64 ((k:Int)+1)))],[.none,.box [.d (.int .i64 0),.d (.int .i64 0),.d (.int .i64 0),.d (.int .i64 0),.d (.int .u8 0),.d (.int .u8 0),.d (.int .u8 0),.d (.int .u8 0),.d (.int .u8 0),.d (.int .u8 0),.d (.int .u8 0),.d (.int .u8 0),.d (.int .u8 0),.d (.int .u8 0),.d (.int .u8 0),.d (.int .u8 0),.d (.int .u8 0),.d (.int .u8 0),.d (.int .u8 0),.d (.int .u8 0),.d (.bool false),.nils 1],.none,.box [.d (.int .i64 ((crO X x.n x.m).b)),.d (.int .i64 ((crO X x.n x.m).d)),.d (.int .i64 ((crO X x.n x.m).s)),.d (.int .i64 ((crO X x.n x.m).e)),.d (.int .u8 (crO X x.n x.m).k.a),.d (.int .u8 (crO X x.n x.m).k.b),.d (.int .u8 (crO X x.n x.m).k.c),.d (.int .u8 (crO X x.n x.m).k.d),.d (.int .u8 (crO X x.n x.m).k.e),.d (.int .u8 (crO X x.n x.m).k.f),.d (.int .u8 (crO X x.n x.m).k.g),.d (.int .u8 (crO X x.n x.m).k.h),.d (.int .u8 (crO X x.n x.m).n.a),.d (.int .u8 (crO X x.n x.m).n.b),.d (.int .u8 (crO X x.n x.m).n.c),.d (.int .u8 (crO X x.n x.m).n.d),.d (.int .u8 (crO X x.n x.m).n.e),.d (.int .u8 (crO X x.n x.m).n.f),.d (.int .u8 (crO X x.n x.m).n.g),.d (.int .u8 (crO X x.n x.m).n.h),.d (.bool c),.d (.slice 1 (ints (crO X x.n x.m).u))],.none,.none,.none,.row 171 11 (ixs L++[Data.agg [.int .i64 x.n,.int .i64 x.m,.int .u8 x.q.a,.int .u8 x.q.b,.int .u8 x.q.c,.int .u8 x.q.d,.int .u8 x.q.e,.int .u8 x.q.f,.int .u8 x.q.g,.int .u8 x.q.h,.int .i64 (k:Int)]]) false]⟩:St)=⟨[(4,.ptr 1 0),(9,.ptr 3 0),(10,.sl 7 (ixs a'.L).length),(36,.d (.slice 10 (tks l))),(37,.d (.int .i64 (((tks l).length:Nat):Int))),(38,.d (.int .i64 ((a'.k:Nat))))],[.none,.box [.d (.int .i64 0),.d (.int .i64 0),.d (.int .i64 0),.d (.int .i64 0),.d (.int .u8 0),.d (.int .u8 0),.d (.int .u8 0),.d (.int .u8 0),.d (.int .u8 0),.d (.int .u8 0),.d (.int .u8 0),.d (.int .u8 0),.d (.int .u8 0),.d (.int .u8 0),.d (.int .u8 0),.d (.int .u8 0),.d (.int .u8 0),.d (.int .u8 0),.d (.int .u8 0),.d (.int .u8 0),.d (.bool false),.nils 1],.none,.box [.d (.int .i64 (a'.X.b)),.d (.int .i64 (a'.X.d)),.d (.int .i64 (a'.X.s)),.d (.int .i64 (a'.X.e)),.d (.int .u8 a'.X.k.a),.d (.int .u8 a'.X.k.b),.d (.int .u8 a'.X.k.c),.d (.int .u8 a'.X.k.d),.d (.int .u8 a'.X.k.e),.d (.int .u8 a'.X.k.f),.d (.int .u8 a'.X.k.g),.d (.int .u8 a'.X.k.h),.d (.int .u8 a'.X.n.a),.d (.int .u8 a'.X.n.b),.d (.int .u8 a'.X.n.c),.d (.int .u8 a'.X.n.d),.d (.int .u8 a'.X.n.e),.d (.int .u8 a'.X.n.f),.d (.int .u8 a'.X.n.g),.d (.int .u8 a'.X.n.h),.d (.bool c),.d (.slice 1 (ints a'.X.u))],.none,.none,.none,.row 171 11 (ixs a'.L) false]⟩ :=
    ⟨⟨k+1,crO X x.n x.m,L++[(x,(k:Int))]⟩,⟨⟨⟨by show k+1≤_; omega,by show (L++[(x,(k:Int))]).length≤k+1; rw [List.length_append]; show L.length+1≤_; omega⟩,⟨hO,hXk,hXn⟩,by rw [hi]; show _=allX c _ ((k+1:Nat):Int) _ _; rw [List.map_append]; rfl⟩,by show l.length - (k+1) < _; omega⟩,by rw [ixs_app]; rfl⟩
   refine sd ?_
   refine b_lt (fun t1=>?_) (fun t1=>?_)
   refine ix_at hx1 ?_ ?_
   (show (0:Int)≤(↑k:Int); omega)
   refine ca c100_ ?_
   refine sd ?_
   refine sd ?_
   refine sd ?_
   refine sd ?_
   refine an ?_ ?_
   refine an ?_ ?_
   exact rfl
   refine an ?_ ?_
   exact rfl
   refine an ?_ ?_
   exact rfl
   refine an ?_ ?_
   (show (List.length (ixs L)+(1:Nat)) * (32:Nat)≤(2:Nat) ^ (47:Nat); omega)
   (show List.length (ixs L)+(1:Nat)≤(2:Nat) ^ (47:Nat); omega)
   refine ar_add ?_ ?_
   refine an ?_ ?_
   (show (-9223372036854775808:Int)≤(↑k:Int)+(1:Int); omega)
   (show (↑k:Int)+(1:Int)≤(9223372036854775807:Int); omega)
   rotate_left
   (exfalso; omega)
   all_goals exact fin
  ·rw [bne_t h0] at hi c100_
   have fin:∃ a':P29,(((a'.k≤l.length∧a'.L.length≤a'.k)∧(ckA a'.X c=0∧a'.X.k.ok∧a'.X.n.ok)∧allX c l 0 a []=allX c (l.drop a'.k) (a'.k:Int) a'.X (a'.L.map Prod.snd))∧l.length - a'.k < l.length - k)∧(⟨[(4,.ptr 1 0),(9,.ptr 3 0),(10,.sl 7 (ixs L).length),(36,.d (.slice 10 (tks l))),(37,.d (.int .i64 (((tks l).length:Nat):Int))),(38,.d (.int .i64 ((k:Int)+1)))],[.none,.box [.d (.int .i64 0),.d (.int .i64 0),.d (.int .i64 0),.d (.int .i64 0),.d (.int .u8 0),.d (.int .u8 0),.d (.int .u8 0),.d (.int .u8 0),.d (.int .u8 0),.d (.int .u8 0),.d (.int .u8 0),.d (.int .u8 0),.d (.int .u8 0),.d (.int .u8 0),.d (.int .u8 0),.d (.int .u8 0),.d (.int .u8 0),.d (.int .u8 0),.d (.int .u8 0),.d (.int .u8 0),.d (.bool false),.nils 1],.none,.box [.d (.int .i64 (X.b)),.d (.int .i64 (X.d)),.d (.int .i64 (X.s)),.d (.int .i64 (X.e)),.d (.int .u8 X.k.a),.d (.int .u8 X.k.b),.d (.int .u8 X.k.c),.d (.int .u8 X.k.d),.d (.int .u8 X.k.e),.d (.int .u8 X.k.f),.d (.int .u8 X.k.g),.d (.int .u8 X.k.h),.d (.int .u8 X.n.a),.d (.int .u8 X.n.b),.d (.int .u8 X.n.c),.d (.int .u8 X.n.d),.d (.int .u8 X.n.e),.d (.int .u8 X.n.f),.d (.int .u8 X.n.g),.d (.int .u8 X.n.h),.d (.bool c),.d (.slice 1 (ints X.u))],.none,.none,.none,.row 171 11 (ixs L) false]⟩:St)=⟨[(4,.ptr 1 0),(9,.ptr 3 0),(10,.sl 7 (ixs a'.L).length),(36,.d (.slice 10 (tks l))),(37,.d (.int .i64 (((tks l).length:Nat):Int))),(38,.d (.int .i64 ((a'.k:Nat))))],[.none,.box [.d (.int .i64 0),.d (.int .i64 0),.d (.int .i64 0),.d (.int .i64 0),.d (.int .u8 0),.d (.int .u8 0),.d (.int .u8 0),.d (.int .u8 0),.d (.int .u8 0),.d (.int .u8 0),.d (.int .u8 0),.d (.int .u8 0),.d (.int .u8 0),.d (.int .u8 0),.d (.int .u8 0),.d (.int .u8 0),.d (.int .u8 0),.d (.int .u8 0),.d (.int .u8 0),.d (.int .u8 0),.d (.bool false),.nils 1],.none,.box [.d (.int .i64 (a'.X.b)),.d (.int .i64 (a'.X.d)),.d (.int .i64 (a'.X.s)),.d (.int .i64 (a'.X.e)),.d (.int .u8 a'.X.k.a),.d (.int .u8 a'.X.k.b),.d (.int .u8 a'.X.k.c),.d (.int .u8 a'.X.k.d),.d (.int .u8 a'.X.k.e),.d (.int .u8 a'.X.k.f),.d (.int .u8 a'.X.k.g),.d (.int .u8 a'.X.k.h),.d (.int .u8 a'.X.n.a),.d (.int .u8 a'.X.n.b),.d (.int .u8 a'.X.n.c),.d (.int .u8 a'.X.n.d),.d (.int .u8 a'.X.n.e),.d (.int .u8 a'.X.n.f),.d (.int .u8 a'.X.n.g),.d (.int .u8 a'.X.n.h),.d (.bool c),.d (.slice 1 (ints a'.X.u))],.none,.none,.none,.row 171 11 (ixs a'.L) false]⟩ :=
    ⟨⟨k+1,X,L⟩,⟨⟨⟨by show k+1≤_; omega,by show L.length≤k+1; omega⟩,⟨hX,hXk,hXn⟩,by rw [hi]; rfl⟩,by show l.length - (k+1) < _; omega⟩,rfl⟩
   refine sd ?_
   refine b_lt (fun t1=>?_) (fun t1=>?_)
   refine ix_at hx1 ?_ ?_
   (show (0:Int)≤(↑k:Int); omega)
   refine ca c100_ ?_
   refine sd ?_
   refine b_eq (fun t2=>?_) (fun t2=>?_)
   (exfalso; omega)
   refine ar_add ?_ ?_
   refine an ?_ ?_
   (show (-9223372036854775808:Int)≤(↑k:Int)+(1:Int); omega)
   (show (↑k:Int)+(1:Int)≤(9223372036854775807:Int); omega)
   rotate_left
   (exfalso; omega)
   all_goals exact fin
 ·rw [List.drop_eq_nil_of_le (by omega)] at hi
  have hi:allX c l 0 a []=(X,L.map Prod.snd):=hi
  have c102_:=c102 L (by omega)
  rw [hi]
  refine sd ?_
  refine b_lt (fun t1=>?_) (fun t1=>?_)
  (exfalso; omega)
  refine sd ?_
  refine ca c102_ ?_
  exact rfl
theorem f1 {x:Int}:firstOf [0,x]=x:=by
 rw [fo_z]
 show (bif x != 0 then x else 0)=_
 by_cases e:x=0
 ·rw [e]; rfl
 ·rw [bne_t e]; rfl
end Vc
