import Derived.Test.YtmffgalmdnpcgaaGreatDoorG10
set_option linter.unusedSectionVars false
set_option linter.unusedVariables false
set_option linter.unusedSimpArgs false
set_option maxRecDepth 10000
set_option maxHeartbeats 4000000
namespace Vc
open Go Go.Proofs
theorem get_lt {α:Type} (l:List α) {k:Nat} (h:k < l.length):∃ x,l[k]?=some x:=⟨_,List.getElem?_eq_getElem h⟩
theorem bne_t {a:Int} (h:a≠0):(a != 0)=true:=by simpa using h
theorem map_at {α:Type} {l:List α} {k:Nat} {x:α} (f:α→Data) (h:l[k]?=some x):(l.map f)[((k:Int)).toNat]?=some (f x):=by
 show (l.map f)[k]?=_
 rw [List.getElem?_map,h]; rfl
def swD (p:Int × Int):Data:=.agg [.int .i64 p.1,.int .i64 p.2]
def sws (l:List (Int × Int)):List Data:=l.map swD
theorem sws_len (l:List (Int × Int)):(sws l).length=l.length:=List.length_map _
theorem sws_at {l:List (Int × Int)} {k:Nat} {x:Int × Int} (h:l[k]?=some x):(sws l)[((k:Int)).toNat]?=some (.agg [.int .i64 x.1,.int .i64 x.2]):=map_at swD h
def tys (l:List (List (Int × Int))):List Data:=l.map fun t=>.slice 2 (sws t)
theorem tys_len (l:List (List (Int × Int))):(tys l).length=l.length:=List.length_map _
theorem tys_at {l:List (List (Int × Int))} {k:Nat} {x:List (Int × Int)} (h:l[k]?=some x):(tys l)[((k:Int)).toNat]?=some (.slice 2 (sws x)):=map_at _ h
structure Sea where
 f:Int
 a:Int
 b:Int
 c:Int
 d:Int
 e:Int
 g:Int
 h:Int
def seaD (s:Sea):Data:=.agg [.int .i64 s.f,.int .i64 s.a,.int .i64 s.b,.int .i64 s.c,.int .i64 s.d,.int .i64 s.e,.int .i64 s.g,.int .i64 s.h]
def seas (l:List Sea):List Data:=l.map seaD
theorem seas_len (l:List Sea):(seas l).length=l.length:=List.length_map _
theorem seas_at {l:List Sea} {k:Nat} {s:Sea} (h:l[k]?=some s):(seas l)[((k:Int)).toNat]?=some (.agg [.int .i64 s.f,.int .i64 s.a,.int .i64 s.b,.int .i64 s.c,.int .i64 s.d,.int .i64 s.e,.int .i64 s.g,.int .i64 s.h]):=map_at seaD h
structure Tf where
 p:List Int
 t:List (List (Int × Int))
 s:List Sea
 b:List (Int × Int)
structure Vr where
 fr:Int
 an:Int
 t:Tf
def vrD (v:Vr):Data:=.agg [.int .i64 v.fr,.int .i64 v.an,.slice 1 (ints v.t.p),.slice 1 (tys v.t.t),.slice 8 (seas v.t.s),.slice 2 (sws v.t.b)]
def vrs (l:List Vr):List Data:=l.map vrD
theorem vrs_len (l:List Vr):(vrs l).length=l.length:=List.length_map _
theorem vrs_at {l:List Vr} {k:Nat} {v:Vr} (h:l[k]?=some v):(vrs l)[((k:Int)).toNat]?=some (.agg [.int .i64 v.fr,.int .i64 v.an,.slice 1 (ints v.t.p),.slice 1 (tys v.t.t),.slice 8 (seas v.t.s),.slice 2 (sws v.t.b)]):=map_at vrD h
structure Cal where
 no:Int
 vs:List Vr
def cntE (n m:Int):Int:=firstOf [bif n==0 then 12 else 0,bif decide (m < n) then 5 else 0]
def prE (p:Int):Int:=within3 p 0 100000
def ascE (i x before:Int):Int:=if (i=0∧x≠0)∨(0 < i∧x≤before) then 11 else 0
def swE (n:Int) (x:Int × Int) (i:Int) (p:Int × Int):Int:=firstOf [within3 x.1 0 86399,bif decide (x.2 < 0)||decide (n≤x.2) then 10 else 0,ascE i x.1 p.1]
def scanE (f:Nat→Int):Nat→Nat→Int
 | 0,_=>0
 | n+1,k=>bif f k != 0 then f k else scanE f n (k+1)
def gE {α:Type} (g:α→Int→α→Int) (l:List α) (k:Nat):Int:=match l[k]?,l[k - 1]? with
 | some x,some p=>g x k p
 | _,_=>0
def scE {α:Type} (g:α→Int→α→Int) (l:List α):Int:=scanE (gE g l) l.length 0
theorem gE_at {α:Type} (g:α→Int→α→Int) {l:List α} {k:Nat} {x p:α} (h:l[k]?=some x) (hp:l[k - 1]?=some p):gE g l k=g x k p:=by unfold gE; rw [h,hp]
theorem scan_one {f:Nat→Int} {n k:Nat} (h:k < n):scanE f (n - k) k=bif f k != 0 then f k else scanE f (n - (k+1)) (k+1):=by
 have e:n - k=(n - (k+1))+1:=by omega
 rw [e]; rfl
theorem scan_hit {f:Nat→Int} {n k:Nat} {E v:Int} (hI:scanE f (n - k) k=E) (h:k < n) (hg:f k=v) (hv:v≠0):E=v:=by
 rw [← hI,scan_one h,hg,bne_t hv]; rfl
theorem scan_go {f:Nat→Int} {n k:Nat} {E v:Int} (hI:scanE f (n - k) k=E) (h:k < n) (hg:f k=v) (hv:v=0):scanE f (n - (k+1)) (k+1)=E:=by
 rw [← hI,scan_one h,hg,hv]; rfl
theorem scan_end {f:Nat→Int} {n:Nat} {E:Int} (hI:scanE f (n - n) n=E):E=0:=by
 rw [← hI,Nat.sub_self]; rfl
def tyE (n:Int) (l:List (Int × Int)):Int:=bif cntE l.length 12 != 0 then cntE l.length 12 else scE (swE n) l
def jr99:AFun:=⟨14,1,[.tmp 4],
 (.seq
 (.reg [] [⟨some 4,.mov (.cst (.d (.int .i64 0))),none⟩])
 (.seq
  (.reg [0] [⟨some 5,.mov (.tmp 0),none⟩,
   ⟨some 6,.cmp .eql (.tmp 5) (.cst (.d (.int .i64 0))),none⟩,
   ⟨some 7,.call 111 [(.tmp 6),(.cst (.d (.int .i64 12)))],none⟩,
   ⟨some 8,.mov (.tmp 0),none⟩,
   ⟨some 9,.mov (.tmp 1),none⟩,
   ⟨some 10,.cmp .gtr (.tmp 8) (.tmp 9),none⟩,
   ⟨some 11,.call 111 [(.tmp 10),(.cst (.d (.int .i64 5)))],none⟩,
   ⟨some 12,.bsl 0 34 1 2 [(.int .i64 0),(.int .i64 0)] [(0,(.tmp 7)),(1,(.tmp 11))],none⟩,
   ⟨some 13,.call 96 [(.tmp 12)],none⟩,
   ⟨some 4,.mov (.tmp 13),none⟩])
  .ret))⟩
def jr163:AFun:=⟨23,0,[.tmp 6],
 (.seq
 (.reg [] [⟨some 6,.mov (.cst (.d (.int .i64 0))),none⟩])
 (.seq
  (.reg [] [⟨some 7,.mov (.tmp 0),none⟩,
   ⟨some 8,.cmp .eql (.tmp 7) (.cst (.d (.int .i64 0))),none⟩,
   ⟨some 9,.mov (.tmp 8),none⟩,
   ⟨some 10,.mov (.tmp 1),some (9,true)⟩,
   ⟨some 11,.cmp .neq (.tmp 10) (.cst (.d (.int .i64 0))),some (9,true)⟩,
   ⟨some 12,.pick (.tmp 9) (.tmp 11) (.cst (.d (.bool false))),none⟩,
   ⟨some 13,.mov (.tmp 12),none⟩,
   ⟨some 14,.mov (.tmp 0),some (13,false)⟩,
   ⟨some 15,.cmp .gtr (.tmp 14) (.cst (.d (.int .i64 0))),some (13,false)⟩,
   ⟨some 16,.mov (.tmp 15),some (13,false)⟩,
   ⟨some 17,.mov (.tmp 1),some (16,true)⟩,
   ⟨some 18,.mov (.tmp 2),some (16,true)⟩,
   ⟨some 19,.cmp .leq (.tmp 17) (.tmp 18),some (16,true)⟩,
   ⟨some 20,.pick (.tmp 16) (.tmp 19) (.cst (.d (.bool false))),some (13,false)⟩,
   ⟨some 21,.pick (.tmp 13) (.cst (.d (.bool true))) (.tmp 20),none⟩,
   ⟨some 22,.call 111 [(.tmp 21),(.cst (.d (.int .i64 11)))],none⟩,
   ⟨some 6,.mov (.tmp 22),none⟩])
  .ret))⟩
def jr101:AFun:=⟨5,0,[.tmp 2],
 (.seq
 (.reg [] [⟨some 2,.mov (.cst (.d (.int .i64 0))),none⟩])
 (.seq
  (.reg [] [⟨some 3,.mov (.tmp 0),none⟩,
   ⟨some 4,.call 109 [(.tmp 3),(.cst (.d (.int .i64 0))),(.cst (.d (.int .i64 100000)))],none⟩,
   ⟨some 2,.mov (.tmp 4),none⟩])
  .ret))⟩
def jr100:AFun:=⟨22,2,[.tmp 4],
 (.seq
 (.reg [] [⟨some 4,.mov (.cst (.nils 1)),none⟩])
 (.seq
  (.reg [] [⟨some 5,.mov (.cst (.nils 1)),none⟩])
  (.seq
  (.seq
   (.reg [] [⟨some 8,.mov (.tmp 0),none⟩,
    ⟨some 9,.len (.tmp 8),none⟩,
    ⟨some 10,.mov (.cst (.d (.int .i64 0))),none⟩])
   (.post [5] [0,1]
   (.block 0
    (.asrow 1 34 1 5
    (.keep [1,5,8,9,10] []
     (.loop
     (.post [1,5,8,9,10] [0,1]
      (.seq
      (.reg [] [⟨some 11,.cmp .lss (.tmp 10) (.tmp 9),none⟩])
      (.seq
       (.cond (.tmp 11)
       .skip
       (.exit 0))
       (.seq
       (.block 1
        (.seq
        (.reg [] [⟨some 12,.ixa 1 (.tmp 8) (.tmp 10),none⟩,
         ⟨some 13,.ld false 1 (.tmp 12),none⟩,
         ⟨some 7,.mov (.tmp 13),none⟩])
        (.reg [0,1] [⟨some 14,.mov (.tmp 5),none⟩,
         ⟨some 15,.mov (.tmp 1),none⟩,
         ⟨some 16,.mov (.tmp 7),none⟩,
         ⟨some 17,.callv (.tmp 15) [(.tmp 16)],none⟩,
         ⟨some 18,.bsl 0 34 1 1 [(.int .i64 0)] [(0,(.tmp 17))],none⟩,
         ⟨some 19,.app 1 34 1 8 (.tmp 14) (.tmp 18),none⟩,
         ⟨some 5,.mov (.tmp 19),none⟩])))
       (.reg [] [⟨some 20,.arith .add .i64 (.tmp 10) (.cst (.d (.int .i64 1))),none⟩,
        ⟨some 10,.mov (.tmp 20),none⟩])))))))))))
  (.seq
   (.reg [] [⟨some 21,.mov (.tmp 5),none⟩,
    ⟨some 4,.mov (.tmp 21),none⟩])
   .ret))))⟩
def jr104:AFun:=⟨52,2,[.tmp 4],
 (.seq
 (.reg [] [⟨some 4,.mov (.cst (.d (.int .i64 0))),none⟩])
 (.seq
  (.seq
  (.reg [] [⟨some 9,.mov (.tmp 0),none⟩,
   ⟨some 10,.len (.tmp 9),none⟩,
   ⟨some 11,.call 99 [(.tmp 10),(.cst (.d (.int .i64 12)))],none⟩,
   ⟨some 5,.mov (.tmp 11),none⟩])
  (.seq
   (.reg [] [⟨some 12,.mov (.tmp 5),none⟩,
    ⟨some 13,.cmp .neq (.tmp 12) (.cst (.d (.int .i64 0))),none⟩])
   (.cond (.tmp 13)
   (.seq
    (.reg [] [⟨some 14,.mov (.tmp 5),none⟩,
     ⟨some 4,.mov (.tmp 14),none⟩])
    .ret)
   .skip)))
  (.seq
  (.seq
   (.reg [] [⟨some 15,.mov (.tmp 0),none⟩,
    ⟨some 16,.len (.tmp 15),none⟩,
    ⟨some 17,.mov (.cst (.d (.int .i64 0))),none⟩])
   (.post [] [0,1]
   (.block 0
    (.keep [0,1,15,16,17] []
    (.loop
     (.post [0,1,15,16,17] [0,1]
     (.seq
      (.reg [] [⟨some 18,.cmp .lss (.tmp 17) (.tmp 16),none⟩])
      (.seq
      (.cond (.tmp 18)
       .skip
       (.exit 0))
      (.seq
       (.block 1
       (.seq
        (.reg [0] [⟨some 19,.mov (.tmp 17),none⟩,
         ⟨some 20,.ixa 2 (.tmp 15) (.tmp 17),none⟩,
         ⟨some 21,.ld true 2 (.tmp 20),none⟩,
         ⟨some 7,.alloc 0 [(.d (.int .i64 0)),(.d (.int .i64 0))],none⟩,
         ⟨some 6,.mov (.tmp 19),none⟩,
         ⟨none,.st 2 (.tmp 7) (.tmp 21),none⟩])
        (.seq
        (.regd [1] [⟨some 22,.fad 0 (.tmp 7),none⟩,
         ⟨some 23,.ld false 1 (.tmp 22),none⟩,
         ⟨some 24,.call 109 [(.tmp 23),(.cst (.d (.int .i64 0))),(.cst (.d (.int .i64 86399)))],none⟩,
         ⟨some 25,.fad 1 (.tmp 7),none⟩,
         ⟨some 26,.ld false 1 (.tmp 25),none⟩,
         ⟨some 27,.cmp .lss (.tmp 26) (.cst (.d (.int .i64 0))),none⟩,
         ⟨some 28,.mov (.tmp 27),none⟩,
         ⟨some 29,.fad 1 (.tmp 7),some (28,false)⟩,
         ⟨some 30,.ld false 1 (.tmp 29),some (28,false)⟩,
         ⟨some 31,.mov (.tmp 1),some (28,false)⟩,
         ⟨some 32,.cmp .geq (.tmp 30) (.tmp 31),some (28,false)⟩,
         ⟨some 33,.pick (.tmp 28) (.cst (.d (.bool true))) (.tmp 32),none⟩,
         ⟨some 34,.call 111 [(.tmp 33),(.cst (.d (.int .i64 10)))],none⟩,
         ⟨some 35,.mov (.tmp 6),none⟩,
         ⟨some 36,.fad 0 (.tmp 7),none⟩,
         ⟨some 37,.ld false 1 (.tmp 36),none⟩,
         ⟨some 38,.mov (.tmp 0),none⟩,
         ⟨some 39,.mov (.tmp 6),none⟩,
         ⟨some 40,.arith .sub .i64 (.tmp 39) (.cst (.d (.int .i64 1))),none⟩,
         ⟨some 41,.maxi (.cst (.d (.int .i64 0))) (.tmp 40),none⟩,
         ⟨some 42,.ixa 2 (.tmp 38) (.tmp 41),none⟩,
         ⟨some 43,.fad 0 (.tmp 42),none⟩,
         ⟨some 44,.ld false 1 (.tmp 43),none⟩,
         ⟨some 45,.call 163 [(.tmp 35),(.tmp 37),(.tmp 44)],none⟩,
         ⟨some 46,.bsl 1 34 1 3 [(.int .i64 0),(.int .i64 0),(.int .i64 0)] [(0,(.tmp 24)),(1,(.tmp 34)),(2,(.tmp 45))],none⟩,
         ⟨some 47,.call 96 [(.tmp 46)],none⟩,
         ⟨some 8,.mov (.tmp 47),none⟩] [(0,3),(1,3),(2,3),(0,4),(1,4),(2,4),(0,5),(1,5),(2,5),(7,9),(8,9),(0,13),(1,13),(2,13),(3,13),(4,13),(5,13),(6,13),(7,13),(8,13),(9,13),(10,13),(11,13),(12,13),(0,14),(1,14),(2,14),(3,14),(4,14),(5,14),(6,14),(7,14),(8,14),(9,14),(10,14),(11,14),(12,14),(13,14),(0,15),(1,15),(2,15),(3,15),(4,15),(5,15),(6,15),(7,15),(8,15),(9,15),(10,15),(11,15),(12,15),(13,15),(0,16),(1,16),(2,16),(3,16),(4,16),(5,16),(6,16),(7,16),(8,16),(9,16),(10,16),(11,16),(12,16),(13,16),(14,16),(15,16),(0,17),(1,17),(2,17),(3,17),(4,17),(5,17),(6,17),(7,17),(8,17),(9,17),(10,17),(11,17),(12,17),(13,17),(14,17),(15,17),(16,17),(0,18),(1,18),(2,18),(3,18),(4,18),(5,18),(6,18),(7,18),(8,18),(9,18),(10,18),(11,18),(12,18),(13,18),(14,18),(15,18),(16,18),(0,19),(1,19),(2,19),(3,19),(4,19),(5,19),(6,19),(7,19),(8,19),(9,19),(10,19),(11,19),(12,19),(13,19),(14,19),(15,19),(16,19),(0,20),(1,20),(2,20),(3,20),(4,20),(5,20),(6,20),(7,20),(8,20),(9,20),(10,20),(11,20),(12,20),(13,20),(14,20),(15,20),(0,21),(1,21),(2,21),(3,21),(4,21),(5,21),(6,21),(7,21),(8,21),(9,21),(10,21),(11,21),(12,21),(13,21),(14,21),(15,21),(0,22),(1,22),(2,22),(3,22),(4,22),(5,22),(6,22),(7,22),(8,22),(9,22),(10,22),(11,22),(12,22),(13,22),(14,22),(15,22)])
        (.seq
         (.reg [] [⟨some 48,.mov (.tmp 8),none⟩,
          ⟨some 49,.cmp .neq (.tmp 48) (.cst (.d (.int .i64 0))),none⟩])
         (.cond (.tmp 49)
         (.seq
          (.reg [] [⟨some 50,.mov (.tmp 8),none⟩,
           ⟨some 4,.mov (.tmp 50),none⟩])
          .ret)
         .skip)))))
       (.reg [] [⟨some 51,.arith .add .i64 (.tmp 17) (.cst (.d (.int .i64 1))),none⟩,
        ⟨some 17,.mov (.tmp 51),none⟩]))))))))))
  (.seq
   (.reg [] [⟨some 4,.mov (.cst (.d (.int .i64 0))),none⟩])
   .ret))))⟩
theorem c99 (n m:Int):CallDet Tryz.prog 99 [.d (.int .i64 n),.d (.int .i64 m)] [.int .i64 (cntE n m)]:=by
 have c96_:CallDet Tryz.prog 96 [.d (.slice 1 [.int .i64 (bif n==0 then 12 else 0),.int .i64 (bif decide (m < n) then 5 else 0)])] [.int .i64 (cntE n m)]:=c96 [bif n==0 then 12 else 0,bif decide (m < n) then 5 else 0] (by simp)
 have c111_1:=c111 (n==0) 12
 have c111_2:=c111 (decide (m < n)) 5
 refine call_of_vc (x:=jr99) (by kernel_rfl) rfl ?_
 refine sd ?_
 refine ca c111_1 ?_
 refine sd ?_
 refine ca c111_2 ?_
 refine sd ?_
 refine sd ?_
 refine ca c96_ ?_
 exact rfl
theorem res_c {a b:Int} (h:a=b):resV [Data.int .i64 a]=resV [Data.int .i64 b]:=by rw [h]
theorem c163 (i x b:Int):CallDet Tryz.prog 163 [.d (.int .i64 i),.d (.int .i64 x),.d (.int .i64 b)] [.int .i64 (ascE i x b)]:=by
 refine call_of_vc (x:=jr163) (by kernel_rfl) rfl ?_
 refine sd ?_
 refine b_eq (fun t1=>?_) (fun t1=>?_)
 refine sd ?_
 refine b_ne (fun t2=>?_) (fun t2=>?_)
 refine sd ?_
 refine ca (c111 _ _) ?_
 rotate_left
 refine sd ?_
 refine b_lt (fun t3=>?_) (fun t3=>?_)
 (exfalso; omega)
 refine sd ?_
 refine ca (c111 _ _) ?_
 rotate_left
 refine sd ?_
 refine sd ?_
 refine b_lt (fun t4=>?_) (fun t4=>?_)
 refine sd ?_
 refine ca (c111 _ _) ?_
 rotate_left
 refine sd ?_
 refine ca (c111 _ _) ?_
 rotate_left
 ·exact res_c (if_pos (by omega)).symm
 ·exact res_c (if_neg (by omega)).symm
 ·refine res_c ?_
  by_cases hx:x≤b
  ·rw [show cmpF .leq x b=true from decide_eq_true hx]; exact (if_pos (by omega)).symm
  ·rw [show cmpF .leq x b=false from decide_eq_false hx]; exact (if_neg (by omega)).symm
 ·exact res_c (if_neg (by omega)).symm
theorem c101 (p:Int):CallDet Tryz.prog 101 [.d (.int .i64 p)] [.int .i64 (prE p)]:=by
 have c109_:=c109 p 0 100000
 refine call_of_vc (x:=jr101) (by kernel_rfl) rfl ?_
 refine ca c109_ ?_
 exact rfl
theorem ints_snoc (l:List Int) (x:Int):ints l++[Data.int .i64 x]=ints (l++[x]):=by unfold ints; rw [List.map_append]; rfl
theorem c100 (l:List Int) (hl:l.length≤1048576):CallDet Tryz.prog 100 [.d (.slice 1 (ints l)),.d (.fn (.func 101) [])] [.slice 1 (ints (l.map prE))]:=by
 have hlen:(ints l).length=l.length:=List.length_map _
 refine call_of_vc (x:=jr100) (by kernel_rfl) rfl ?_
 refine loop_st (fun k:Nat=>⟨[(1,.d (.fn (.func 101) [])),(5,.sl 1 (ints ((l.take k).map prE)).length),(8,.d (.slice 1 (ints l))),(9,.d (.int .i64 (((ints l).length:Nat):Int))),(10,.d (.int .i64 ((k:Nat))))],[.none,.row 34 1 (ints ((l.take k).map prE)) false]⟩) (fun k=>k≤l.length) (fun k=>l.length - k) 0 rfl (Nat.zero_le _) ?_
 rintro k hk
 have hk:k≤l.length:=hk
 have hDl:(ints ((l.take k).map prE)).length=k:=by simp [ints,sws,tys,seas]; omega
 dsimp only
 by_cases hkn:k < l.length
 ·refine Exists.elim (get_lt l hkn) fun x hx=>?_
  have hx1:=ints_get hx
  have c101_:=c101 x
  have fin:∃ a':Nat,(a'≤l.length∧l.length - a' < l.length - k)∧(⟨[(1,.d (.fn (.func 101) [])),(5,.sl 1 (ints ((l.take k).map prE)++[Data.int .i64 (prE x)]).length),(8,.d (.slice 1 (ints l))),(9,.d (.int .i64 (((ints l).length:Nat):Int))),(10,.d (.int .i64 ((k:Int)+1)))],[.none,.row 34 1 (ints ((l.take k).map prE)++[Data.int .i64 (prE x)]) false]⟩:St)=⟨[(1,.d (.fn (.func 101) [])),(5,.sl 1 (ints ((l.take a').map prE)).length),(8,.d (.slice 1 (ints l))),(9,.d (.int .i64 (((ints l).length:Nat):Int))),(10,.d (.int .i64 ((a':Nat))))],[.none,.row 34 1 (ints ((l.take a').map prE)) false]⟩:=⟨k+1,⟨by omega,by omega⟩,by rw [take_map_succ prE hx,← ints_snoc]; rfl⟩
  refine sd ?_
  refine b_lt (fun t1=>?_) (fun t1=>?_)
  refine ix_at hx1 ?_ ?_
  (show (0:Int)≤(↑k:Int); omega)
  refine ca c101_ ?_
  refine sd ?_
  refine sd ?_
  refine sd ?_
  refine an ?_ ?_
  refine an ?_ ?_
  exact rfl
  refine an ?_ ?_
  exact rfl
  refine an ?_ ?_
  exact rfl
  refine an ?_ ?_
  (show (List.length (ints (List.map prE (List.take k l)))+(1:Nat)) * (8:Nat)≤(2:Nat) ^ (47:Nat); omega)
  (show List.length (ints (List.map prE (List.take k l)))+(1:Nat)≤(2:Nat) ^ (47:Nat); omega)
  refine ar_add ?_ ?_
  refine an ?_ ?_
  (show (-9223372036854775808:Int)≤(↑k:Int)+(1:Int); omega)
  (show (↑k:Int)+(1:Int)≤(9223372036854775807:Int); omega)
  rotate_left
  (exfalso; omega)
  all_goals exact fin
 ·have e:k=l.length:=by omega
  subst e
  rw [List.take_length]
  refine sd ?_
  refine b_lt (fun t1=>?_) (fun t1=>?_)
  (exfalso; omega)
  refine sd ?_
  exact rfl
theorem prev_at {α:Type} {l:List α} {k:Nat} (h:k < l.length):∃ p,l[(max (0:Int) ((k:Int) - 1)).toNat]?=some p:=get_lt l (by omega)
theorem c104 (l:List (Int × Int)) (hl:l.length≤1048576) (n:Int):CallDet Tryz.prog 104 [.d (.slice 2 (sws l)),.d (.int .i64 n)] [.int .i64 (tyE n l)]:=by
 have hlen:=sws_len l
 have c99_:=c99 (((sws l).length:Nat):Int) 12
 refine call_of_vc (x:=jr104) (by kernel_rfl) rfl ?_
 refine ca c99_ ?_
 refine sd ?_
 refine b_ne (fun t1=>?_) (fun t1=>?_)
 rotate_left
 rotate_left
 ·rw [hlen] at t1 ⊢
  exact res_c (by unfold tyE; rw [bne_t t1]; rfl)
 have hE:tyE n l=scE (swE n) l:=by
  rw [hlen] at t1
  unfold tyE; rw [t1]; rfl
 refine loop_st (fun k:Nat=>⟨[(0,.d (.slice 2 (sws l))),(1,.d (.int .i64 n)),(15,.d (.slice 2 (sws l))),(16,.d (.int .i64 (((sws l).length:Nat):Int))),(17,.d (.int .i64 (k:Int)))],[.none,.none]⟩) (fun k=>k≤l.length∧scanE (gE (swE n) l) (l.length - k) k=scE (swE n) l) (fun k=>l.length - k) 0 rfl ⟨Nat.zero_le _,rfl⟩ ?_
 rintro k ⟨hk,hI⟩
 dsimp only
 by_cases hkn:k < l.length
 ·refine Exists.elim (get_lt l hkn) fun x hx=>?_
  refine Exists.elim (prev_at hkn) fun p hp=>?_
  have hp2:l[k - 1]?=some p:=by rw [← hp]; congr 1; omega
  have hp3:l[((k:Int) - 1).toNat]?=some p:=by rw [← hp2]; congr 1; omega
  have hg:=gE_at (swE n) hx hp2
  have hit:(swE n) x k p≠0→resV [.int .i64 ((swE n) x k p)]=resV [.int .i64 (tyE n l)]:=fun t=>res_c ((hE.trans (scan_hit hI hkn hg t)).symm)
  have fin:(swE n) x k p=0→∃ a':Nat,((a'≤l.length∧scanE (gE (swE n) l) (l.length - a') a'=scE (swE n) l)∧l.length - a' < l.length - k)∧(⟨[(0,.d (.slice 2 (sws l))),(1,.d (.int .i64 n)),(15,.d (.slice 2 (sws l))),(16,.d (.int .i64 (((sws l).length:Nat):Int))),(17,.d (.int .i64 ((k:Int)+1)))],[.none,.none]⟩:St)=⟨[(0,.d (.slice 2 (sws l))),(1,.d (.int .i64 n)),(15,.d (.slice 2 (sws l))),(16,.d (.int .i64 (((sws l).length:Nat):Int))),(17,.d (.int .i64 (a':Int)))],[.none,.none]⟩:=fun t=>⟨k+1,⟨⟨by omega,scan_go hI hkn hg t⟩,by omega⟩,rfl⟩
  have hx1:=sws_at hx
  have hp1:(sws l)[(max (0:Int) ((k:Int) - 1)).toNat]?=some (.agg [.int .i64 p.1,.int .i64 p.2]):=by unfold sws; rw [List.getElem?_map,hp]; rfl
  have c109_:=c109 x.1 0 86399
  have c163_:=c163 k x.1 p.1
  by_cases h2:x.2 < 0
  ·have e:swE n x k p=firstOf [within3 x.1 0 86399,10,ascE k x.1 p.1]:=by unfold swE; rw [decide_eq_true h2]; rfl
   have c111_:=c111 true 10
   have c96_:CallDet Tryz.prog 96 [.d (.slice 1 (ints [within3 x.1 0 86399,10,ascE k x.1 p.1]))] [.int .i64 (firstOf [within3 x.1 0 86399,10,ascE k x.1 p.1])]:=c96 _ (by simp)
   unfold ints at c96_
   rw [← e] at c96_
   refine sd ?_
   refine b_lt (fun t2=>?_) (fun t2=>?_)
   refine ix_at hx1 ?_ ?_
   (show (0:Int)≤(↑k:Int); omega)
   refine ca c109_ ?_
   refine sd ?_
   refine b_lt (fun t3=>?_) (fun t3=>?_)
   refine sd ?_
   refine ca c111_ ?_
   refine ar_sub ?_ ?_
   refine an ?_ ?_
   (show (-9223372036854775808:Int)≤(↑k:Int) - (1:Int); omega)
   (show (↑k:Int) - (1:Int)≤(9223372036854775807:Int); omega)
   refine sd ?_
   refine ix_at hp1 ?_ ?_
   (show (0:Int)≤max (0:Int) ((↑k:Int) - (1:Int)); omega)
   refine ca c163_ ?_
   refine sd ?_
   refine sd ?_
   refine ca c96_ ?_
   refine sd ?_
   refine b_ne (fun t4=>?_) (fun t4=>?_)
   rotate_left
   refine ar_add ?_ ?_
   refine an ?_ ?_
   (show (-9223372036854775808:Int)≤(↑k:Int)+(1:Int); omega)
   (show (↑k:Int)+(1:Int)≤(9223372036854775807:Int); omega)
   rotate_left
   (exfalso; omega)
   (exfalso; omega)
   ·exact hit t4
   ·exact fin t4
  ·have e:swE n x k p=firstOf [within3 x.1 0 86399,bif decide (n≤x.2) then 10 else 0,ascE k x.1 p.1]:=by unfold swE; rw [decide_eq_false h2,Bool.false_or]
   have c111_:=c111 (decide (n≤x.2)) 10
   have c96_:CallDet Tryz.prog 96 [.d (.slice 1 (ints [within3 x.1 0 86399,bif decide (n≤x.2) then 10 else 0,ascE k x.1 p.1]))] [.int .i64 (firstOf [within3 x.1 0 86399,bif decide (n≤x.2) then 10 else 0,ascE k x.1 p.1])]:=c96 _ (by simp)
   unfold ints at c96_
   rw [← e] at c96_
   refine sd ?_
   refine b_lt (fun t2=>?_) (fun t2=>?_)
   refine ix_at hx1 ?_ ?_
   (show (0:Int)≤(↑k:Int); omega)
   refine ca c109_ ?_
   refine sd ?_
   refine b_lt (fun t3=>?_) (fun t3=>?_)
   (exfalso; omega)
   refine sd ?_
   refine ca c111_ ?_
   refine ar_sub ?_ ?_
   refine an ?_ ?_
   (show (-9223372036854775808:Int)≤(↑k:Int) - (1:Int); omega)
   (show (↑k:Int) - (1:Int)≤(9223372036854775807:Int); omega)
   refine sd ?_
   refine ix_at hp1 ?_ ?_
   (show (0:Int)≤max (0:Int) ((↑k:Int) - (1:Int)); omega)
   refine ca c163_ ?_
   refine sd ?_
   refine sd ?_
   refine ca c96_ ?_
   refine sd ?_
   refine b_ne (fun t4=>?_) (fun t4=>?_)
   rotate_left
   refine ar_add ?_ ?_
   refine an ?_ ?_
   (show (-9223372036854775808:Int)≤(↑k:Int)+(1:Int); omega)
   (show (↑k:Int)+(1:Int)≤(9223372036854775807:Int); omega)
   rotate_left
   (exfalso; omega)
   ·exact hit t4
   ·exact fin t4
 ·have e:k=l.length:=by omega
  subst e
  refine sd ?_
  refine b_lt (fun t2=>?_) (fun t2=>?_)
  (exfalso; omega)
  rotate_left
  exact res_c ((hE.trans (scan_end hI)).symm)
end Vc
