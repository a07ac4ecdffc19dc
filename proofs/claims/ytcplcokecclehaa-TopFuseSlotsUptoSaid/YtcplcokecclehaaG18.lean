import Derived.Test.YtcplcokecclehaaG15
import Derived.Test.YtcplcokecclehaaG17
set_option linter.unusedSectionVars false
set_option linter.unusedVariables false
set_option linter.unusedSimpArgs false
set_option maxRecDepth 10000
set_option maxHeartbeats 4000000
namespace Vc
open Go Go.Proofs
@[irreducible] def seg3a:ACode:=(.post [1,2,3,11,12] [0,1,2]
 (.block 0
 (.asrow 2 4 1 11
 (.keep [1,2,3,7,9,11,12,97,98] [0]
 (.loop
 (.post [1,2,3,7,9,11,12,97,98] [1,2]
 (.seq
 (.reg [] [⟨some 99,.cmp .lss (.tmp 98) (.tmp 97),none⟩])
 (.seq
 (.cond (.tmp 99)
 .skip
 (.exit 0))
 (.seq
 (.block 1
 (.seq
 (.reg [] [⟨some 100,.mov (.tmp 98),none⟩,
 ⟨some 13,.mov (.tmp 100),none⟩])
 (.seq
 (.reg [] [⟨some 102,.ld true 5 (.tmp 3),none⟩,
 ⟨some 103,.call 9 [(.tmp 102)],none⟩,
 ⟨some 104,.mov (.tmp 13),none⟩,
 ⟨some 105,.mov (.tmp 7),none⟩,
 ⟨some 106,.call 13 [(.tmp 105)],none⟩,
 ⟨some 107,.call 12 [(.tmp 103),(.tmp 104),(.tmp 106)],none⟩,
 ⟨some 101,.mov (.tmp 107),none⟩,
 ⟨some 108,.ext 0 (.tmp 101),none⟩,
 ⟨some 109,.ext 1 (.tmp 101),none⟩,
 ⟨some 14,.mov (.tmp 108),none⟩,
 ⟨some 15,.mov (.tmp 109),none⟩])
 (.seq
 (.seq
 (.reg [] [⟨some 110,.mov (.tmp 15),none⟩,
 ⟨some 111,.cmp .neq (.tmp 110) (.cst (.d (.int .i64 0))),none⟩,
 ⟨some 112,.mov (.tmp 111),none⟩,
 ⟨some 113,.mov (.tmp 15),some (112,true)⟩,
 ⟨some 114,.cmp .neq (.tmp 113) (.cst (.d (.int .i64 20))),some (112,true)⟩,
 ⟨some 115,.pick (.tmp 112) (.tmp 114) (.cst (.d (.bool false))),none⟩])
 (.cond (.tmp 115)
 (.seq
 (.reg [] [⟨some 6,.mov (.cst (.d (.bool false))),none⟩])
 .ret)
 .skip))
 (.seq
 (.seq
 (.reg [] [⟨some 117,.ld true 5 (.tmp 3),none⟩,
 ⟨some 118,.call 9 [(.tmp 117)],none⟩,
 ⟨some 119,.mov (.tmp 13),none⟩,
 ⟨some 120,.mov (.tmp 9),none⟩,
 ⟨some 121,.call 13 [(.tmp 120)],none⟩,
 ⟨some 122,.call 12 [(.tmp 118),(.tmp 119),(.tmp 121)],none⟩,
 ⟨some 116,.mov (.tmp 122),none⟩,
 ⟨some 123,.ext 0 (.tmp 116),none⟩,
 ⟨some 124,.ext 1 (.tmp 116),none⟩,
 ⟨some 16,.mov (.tmp 123),none⟩,
 ⟨some 17,.mov (.tmp 124),none⟩])
 (.seq
 (.reg [] [⟨some 125,.mov (.tmp 17),none⟩,
 ⟨some 126,.cmp .neq (.tmp 125) (.cst (.d (.int .i64 0))),none⟩])
 (.cond (.tmp 126)
 (.seq
 (.reg [] [⟨some 6,.mov (.cst (.d (.bool false))),none⟩])
 .ret)
 .skip)))
 (.seq
 (.reg [1,2] [⟨some 127,.mov (.tmp 11),none⟩,
 ⟨some 128,.mov (.tmp 15),none⟩,
 ⟨some 129,.cmp .eql (.tmp 128) (.cst (.d (.int .i64 0))),none⟩,
 ⟨some 130,.bsl 1 4 1 1 [(.bool false)] [(0,(.tmp 129))],none⟩,
 ⟨some 131,.app 2 4 1 1 (.tmp 127) (.tmp 130),none⟩,
 ⟨some 11,.mov (.tmp 131),none⟩])
 (.seq
 (.reg [] [⟨some 132,.mov (.tmp 15),none⟩,
 ⟨some 133,.cmp .eql (.tmp 132) (.cst (.d (.int .i64 0))),none⟩])
 (.cond (.tmp 133)
 (.reg [] [⟨some 134,.mov (.tmp 12),none⟩,
 ⟨some 135,.arith .add .i64 (.tmp 134) (.cst (.d (.int .i64 1))),none⟩,
 ⟨some 12,.mov (.tmp 135),none⟩])
 .skip))))))))
 (.reg [] [⟨some 136,.arith .add .i64 (.tmp 98) (.cst (.d (.int .i64 1))),none⟩,
 ⟨some 98,.mov (.tmp 136),none⟩]))))))))))
@[irreducible] def seg3b:ACode:=(.post [11,12,18,19] [0,1,2,3,4,5]
 (.block 2
 (.asrow 5 45 4 18
 (.keep [11,12,18,19,147,148,149] [0,1,2]
 (.loop
 (.post [11,12,18,19,147,148,149] [3,4,5]
 (.seq
 (.reg [] [⟨some 150,.cmp .lss (.tmp 149) (.tmp 148),none⟩])
 (.seq
 (.cond (.tmp 150)
 .skip
 (.exit 2))
 (.seq
 (.block 3
 (.seq
 (.reg [3] [⟨some 151,.mov (.tmp 149),none⟩,
 ⟨some 152,.ixa 2 (.tmp 147) (.tmp 149),none⟩,
 ⟨some 153,.ld true 2 (.tmp 152),none⟩,
 ⟨some 21,.alloc 3 [(.d (.int .u8 0)),(.d (.int .u8 0))],none⟩,
 ⟨some 20,.mov (.tmp 151),none⟩,
 ⟨none,.st 2 (.tmp 21) (.tmp 153),none⟩])
 (.seq
 (.regd [4,5] [⟨some 154,.mov (.tmp 18),none⟩,
 ⟨some 155,.mov (.tmp 20),none⟩,
 ⟨some 156,.call 14 [(.tmp 155)],none⟩,
 ⟨some 157,.cat (.cst (.d (.str [115]))) (.tmp 156),none⟩,
 ⟨some 158,.ixp 2 1 (.tmp 21) (.cst (.d (.int .i64 0))),none⟩,
 ⟨some 159,.ld false 1 (.tmp 158),none⟩,
 ⟨some 160,.conv .i64 (.tmp 159),none⟩,
 ⟨some 161,.arith .rem .i64 (.tmp 160) (.cst (.d (.int .i64 4))),none⟩,
 ⟨some 162,.ixp 2 1 (.tmp 21) (.cst (.d (.int .i64 1))),none⟩,
 ⟨some 163,.ld false 1 (.tmp 162),none⟩,
 ⟨some 164,.conv .i64 (.tmp 163),none⟩,
 ⟨some 165,.arith .rem .i64 (.tmp 164) (.cst (.d (.int .i64 7))),none⟩,
 ⟨some 166,.build [(.d (.str [])),(.d (.int .i64 0)),(.d (.int .i64 0)),(.d (.int .i64 0))] [(0,1,(.tmp 157)),(1,1,(.tmp 161)),(2,1,(.tmp 165))],none⟩,
 ⟨some 167,.bsl 4 45 4 1 [(.agg [(.str []),(.int .i64 0),(.int .i64 0),(.int .i64 0)])] [(0,(.tmp 166))],none⟩,
 ⟨some 168,.app 5 45 4 40 (.tmp 154) (.tmp 167),none⟩,
 ⟨some 18,.mov (.tmp 168),none⟩] [(0,1),(0,2),(0,3),(0,4),(1,4),(2,4),(3,4),(0,5),(1,5),(2,5),(3,5),(0,6),(1,6),(2,6),(3,6),(0,7),(1,7),(2,7),(3,7),(0,8),(1,8),(2,8),(3,8),(4,8),(5,8),(6,8),(7,8),(0,9),(1,9),(2,9),(3,9),(4,9),(5,9),(6,9),(7,9),(0,10),(1,10),(2,10),(3,10),(4,10),(5,10),(6,10),(7,10),(0,11),(1,11),(2,11),(3,11),(4,11),(5,11),(6,11),(7,11),(0,12),(0,13)])
 (.reg [] [⟨some 169,.mov (.tmp 19),none⟩,
 ⟨some 170,.ixp 2 1 (.tmp 21) (.cst (.d (.int .i64 1))),none⟩,
 ⟨some 171,.ld false 1 (.tmp 170),none⟩,
 ⟨some 172,.conv .i64 (.tmp 171),none⟩,
 ⟨some 173,.arith .rem .i64 (.tmp 172) (.cst (.d (.int .i64 7))),none⟩,
 ⟨some 174,.arith .add .i64 (.tmp 169) (.tmp 173),none⟩,
 ⟨some 19,.mov (.tmp 174),none⟩]))))
 (.reg [] [⟨some 175,.arith .add .i64 (.tmp 149) (.cst (.d (.int .i64 1))),none⟩,
 ⟨some 149,.mov (.tmp 175),none⟩]))))))))))
@[irreducible] def seg3c:ACode:=(.post [12,19,25,27,28] [0,1,2,3,4,5,6,7,8,9]
 (.block 4
 (.keep [11,12,18,19,25,27,28,216,217,218] [0,1,2,3,4,5,6,7,8,9]
 (.loop
 (.post [11,12,18,19,25,27,28,216,217,218] []
 (.seq
 (.reg [] [⟨some 219,.cmp .lss (.tmp 218) (.tmp 217),none⟩])
 (.seq
 (.cond (.tmp 219)
 .skip
 (.exit 4))
 (.seq
 (.block 5
 (.seq
 (.reg [] [⟨some 220,.mov (.tmp 218),none⟩,
 ⟨some 221,.ixa 1 (.tmp 216) (.tmp 218),none⟩,
 ⟨some 222,.ld false 1 (.tmp 221),none⟩,
 ⟨some 29,.mov (.tmp 220),none⟩,
 ⟨some 30,.mov (.tmp 222),none⟩])
 (.seq
 (.seq
 (.reg [] [⟨some 223,.mov (.tmp 11),none⟩,
 ⟨some 224,.mov (.tmp 29),none⟩,
 ⟨some 225,.mov (.tmp 11),none⟩,
 ⟨some 226,.len (.tmp 225),none⟩,
 ⟨some 227,.arith .rem .i64 (.tmp 224) (.tmp 226),none⟩,
 ⟨some 228,.ixa 1 (.tmp 223) (.tmp 227),none⟩,
 ⟨some 229,.ld false 1 (.tmp 228),none⟩,
 ⟨some 230,.not (.tmp 229),none⟩])
 (.cond (.tmp 230)
 (.seq
 (.seq
 (.reg [] [⟨some 231,.mov (.tmp 30),none⟩,
 ⟨some 232,.cmp .neq (.tmp 231) (.cst (.d (.int .i64 (-1)))),none⟩])
 (.cond (.tmp 232)
 (.seq
 (.reg [] [⟨some 6,.mov (.cst (.d (.bool false))),none⟩])
 .ret)
 .skip))
 (.exit 5))
 .skip))
 (.seq
 (.seq
 (.reg [] [⟨some 233,.mov (.tmp 28),none⟩,
 ⟨some 234,.mov (.tmp 25),none⟩,
 ⟨some 235,.len (.tmp 234),none⟩,
 ⟨some 236,.cmp .geq (.tmp 233) (.tmp 235),none⟩,
 ⟨some 237,.mov (.tmp 236),none⟩,
 ⟨some 238,.mov (.tmp 25),some (237,false)⟩,
 ⟨some 239,.mov (.tmp 28),some (237,false)⟩,
 ⟨some 240,.ixa 1 (.tmp 238) (.tmp 239),some (237,false)⟩,
 ⟨some 241,.ld false 1 (.tmp 240),some (237,false)⟩,
 ⟨some 242,.mov (.tmp 29),some (237,false)⟩,
 ⟨some 243,.cmp .neq (.tmp 241) (.tmp 242),some (237,false)⟩,
 ⟨some 244,.pick (.tmp 237) (.cst (.d (.bool true))) (.tmp 243),none⟩])
 (.cond (.tmp 244)
 (.seq
 (.reg [] [⟨some 6,.mov (.cst (.d (.bool false))),none⟩])
 .ret)
 .skip))
 (.seq
 (.reg [] [⟨some 245,.mov (.tmp 28),none⟩,
 ⟨some 246,.arith .add .i64 (.tmp 245) (.cst (.d (.int .i64 1))),none⟩,
 ⟨some 28,.mov (.tmp 246),none⟩])
 (.seq
 (.seq
 (.reg [] [⟨some 247,.mov (.tmp 30),none⟩,
 ⟨some 248,.cmp .lss (.tmp 247) (.cst (.d (.int .i64 (-1)))),none⟩,
 ⟨some 249,.mov (.tmp 248),none⟩,
 ⟨some 250,.mov (.tmp 30),some (249,false)⟩,
 ⟨some 251,.mov (.tmp 18),some (249,false)⟩,
 ⟨some 252,.len (.tmp 251),some (249,false)⟩,
 ⟨some 253,.cmp .geq (.tmp 250) (.tmp 252),some (249,false)⟩,
 ⟨some 254,.pick (.tmp 249) (.cst (.d (.bool true))) (.tmp 253),none⟩,
 ⟨some 255,.mov (.tmp 254),none⟩,
 ⟨some 256,.mov (.tmp 30),some (255,false)⟩,
 ⟨some 257,.cmp .eql (.tmp 256) (.cst (.d (.int .i64 (-1)))),some (255,false)⟩,
 ⟨some 258,.mov (.tmp 27),some (255,false)⟩,
 ⟨some 259,.mov (.tmp 19),some (255,false)⟩,
 ⟨some 260,.cmp .eql (.tmp 258) (.tmp 259),some (255,false)⟩,
 ⟨some 261,.beq true (.tmp 257) (.tmp 260),some (255,false)⟩,
 ⟨some 262,.pick (.tmp 255) (.cst (.d (.bool true))) (.tmp 261),none⟩])
 (.cond (.tmp 262)
 (.seq
 (.reg [] [⟨some 6,.mov (.cst (.d (.bool false))),none⟩])
 .ret)
 .skip))
 (.seq
 (.reg [] [⟨some 263,.mov (.tmp 30),none⟩,
 ⟨some 264,.cmp .geq (.tmp 263) (.cst (.d (.int .i64 0))),none⟩])
 (.cond (.tmp 264)
 (.reg [] [⟨some 265,.mov (.tmp 27),none⟩,
 ⟨some 266,.arith .add .i64 (.tmp 265) (.cst (.d (.int .i64 1))),none⟩,
 ⟨some 27,.mov (.tmp 266),none⟩])
 .skip))))))))
 (.reg [] [⟨some 267,.arith .add .i64 (.tmp 218) (.cst (.d (.int .i64 1))),none⟩,
 ⟨some 218,.mov (.tmp 267),none⟩])))))))))
def u8ps (l:List (Int × Int)):List Data:=l.map fun p=>.agg [.int .u8 p.1,.int .u8 p.2]
theorem u8ps_len (l:List (Int × Int)):(u8ps l).length=l.length:=List.length_map _
theorem u8ps_at {l:List (Int × Int)} {k:Nat} {p:Int × Int} (h:l[k]?=some p):(u8ps l)[((k:Int)).toNat]?=some (.agg [.int .u8 p.1,.int .u8 p.2]):=by
 show (l.map _)[k]?=_
 rw [List.getElem?_map,h]; rfl
def cycTo (t:Tn) (l:List Int):Nat→List Bool
 | 0=>[]
 | k+1=>cycTo t l k++[fitF t k l]
theorem cycTo_len (t:Tn) (l:List Int):∀ k,(cycTo t l k).length=k
 | 0=>rfl
 | k+1=>by rw [cycTo,List.length_append,cycTo_len t l k]; rfl
theorem cycTo_at (t:Tn) (l:List Int):∀ {k i:Nat},i < k→(cycTo t l k)[i]?=some (fitF t i l)
 | k+1,i,h=>by
  rw [cycTo]
  by_cases hc:i < k
  ·rw [List.getElem?_append_left (by rw [cycTo_len]; exact hc)]; exact cycTo_at t l hc
  ·have e:i=k:=by omega
   subst e
   rw [List.getElem?_append_right (by rw [cycTo_len]; exact Nat.le_refl _),cycTo_len,Nat.sub_self]; rfl
theorem count_le (c:List Bool):c.count true≤c.length:=List.count_le_length
theorem rob_all {t:Tn} (h:t.ok) {p c:Nat}:∀ {k:Nat},p < k→c < t.sg.length→(robT t k)[c]?.getD 0≤(carry t p c:Int)
 | k+1,hp,hc=>by
  have hl:c < (robT t k).length:=by rw [robT_len]; exact hc
  have e:(robT t (k+1))[c]?=some (min ((robT t k)[c]?.getD 0) ((allF t k)[c]?.getD 0)):=minTo_lo _ _ hc hl
  rw [e]
  show min ((robT t k)[c]?.getD 0) ((allF t k)[c]?.getD 0)≤_
  by_cases hk:p < k
  ·have:=rob_all h hk hc; omega
  ·have e2:p=k:=by omega
   subst e2
   rw [show (allF t p)[c]?=some (carry t p c:Int) from carT_at t p hc]
   show min _ ((carry t p c:Nat):Int)≤_
   omega
theorem all_rng {t:Tn} (p:Nat):∀ x∈allF t p,0≤x∧x≤6:=fun x hx=>by
 obtain ⟨c,hc⟩:=List.getElem?_of_mem hx
 have hl:=(List.getElem?_eq_some_iff.1 hc).1
 rw [allF_len] at hl
 have e:(allF t p)[c]?=some (carry t p c:Int):=carT_at t p hl
 rw [e] at hc
 cases hc
 have h6:carry t p c≤6:=crT_lt (cB t p c) 6
 omega
theorem rob_rng {t:Tn}:∀ k,∀ x∈robT t k,0≤x∧x≤6
 | 0=>all_rng 0
 | k+1=>fun x hx=>by
  obtain ⟨c,hc⟩:=List.getElem?_of_mem hx
  have hl:=(List.getElem?_eq_some_iff.1 hc).1
  rw [robT_len] at hl
  have hl2:c < (robT t k).length:=by rw [robT_len]; exact hl
  have e:(robT t (k+1))[c]?=some (min ((robT t k)[c]?.getD 0) ((allF t k)[c]?.getD 0)):=minTo_lo _ _ hl hl2
  rw [e] at hc
  have h1:0≤(robT t k)[c]?.getD 0∧(robT t k)[c]?.getD 0≤6:=by
   rw [List.getElem?_eq_getElem hl2]; exact rob_rng k _ (List.getElem_mem hl2)
  have hl3:c < (allF t k).length:=by rw [allF_len]; exact hl
  have h2:0≤(allF t k)[c]?.getD 0∧(allF t k)[c]?.getD 0≤6:=by
   rw [List.getElem?_eq_getElem hl3]; exact all_rng k _ (List.getElem_mem hl3)
  cases hc
  omega
theorem fit_rob {t:Tn} (h:t.ok) {p:Nat} (hp:p < t.nz.length):fitF t p (robT t t.nz.length)=true:=fit_all fun c hc=>rob_all h hp hc
theorem fit_own {t:Tn} {p:Nat}:fitF t p (allF t p)=true:=fit_all fun c hc=>by
 rw [show (allF t p)[c]?=some (carry t p c:Int) from carT_at t p hc]; exact Int.le_refl _
theorem v3a {n : Nat} {t : Tn} (h : t.ok) {q : Int} {l : List (Int × Int)} {b r : List Int} {Q : AExit → St → Prop} (hbl : b.length = t.sg.length) (hb : ∀ x ∈ b, 0 ≤ x ∧ x ≤ 6) (hrl : r.length = t.sg.length) (hr : ∀ x ∈ r, 0 ≤ x ∧ x ≤ 6) (hfr : ∀ p, p < t.nz.length → fitF t p r = true)
  (hQ:Q .normal ⟨[(1,.d (.int .u8 q)),(2,.d (.slice 2 (u8ps l))),(3,.ptr 0 0),(11,.sl 2 (blsD (cycTo t b t.nz.length)).length),(12,.d (.int .i64 ((cycTo t b t.nz.length).count true:Nat)))],[.cbox [.slice 1 (ints t.sg),.slice 1 (rws t.nz),.int .i64 t.mg,.int .i64 t.mx,.slice 1 (ints t.nt)],.none,.row 4 1 (blsD (cycTo t b t.nz.length)) false,.none,.none,.none,.none,.none,.none,.none,.none]⟩) :
  vc Try.prog n seg3a ⟨[(1,.d (.int .u8 q)),(2,.d (.slice 2 (u8ps l))),(3,.ptr 0 0),(7,.d (.slice 1 (ints b))),(9,.d (.slice 1 (ints r))),(11,.nils 1),(12,.d (.int .i64 0)),(97,.d (.int .i64 ((rws t.nz).length:Int))),(98,.d (.int .i64 0))],[.cbox [.slice 1 (ints t.sg),.slice 1 (rws t.nz),.int .i64 t.mg,.int .i64 t.mx,.slice 1 (ints t.nt)],.none,.none,.none,.none,.none,.none,.none,.none,.none,.none]⟩ Q:=by
 unfold seg3a
 have hn8:=h.n8
 have hp8:=h.p8
 have hl3:=rws_len t.nz
 have c9_:=k9 h
 have c13_1:=k13 b (by omega)
 have c13_2:=k13 r (by omega)
 rotate_left
 refine loop_st (fun k:Nat=>⟨[(1,.d (.int .u8 q)),(2,.d (.slice 2 (u8ps l))),(3,.ptr 0 0),(7,.d (.slice 1 (ints b))),(9,.d (.slice 1 (ints r))),(11,.sl 2 (blsD (cycTo t b k)).length),(12,.d (.int .i64 ((cycTo t b k).count true:Nat))),(97,.d (.int .i64 ((rws t.nz).length:Int))),(98,.d (.int .i64 k))],[.cbox [.slice 1 (ints t.sg),.slice 1 (rws t.nz),.int .i64 t.mg,.int .i64 t.mx,.slice 1 (ints t.nt)],.none,.row 4 1 (blsD (cycTo t b k)) false,.none,.none,.none,.none,.none,.none,.none,.none]⟩) (fun k=>k≤t.nz.length) (fun k=>t.nz.length - k) 0 rfl (Nat.zero_le _) ?_
 intro k hk
 have hk:k≤t.nz.length:=hk
 dsimp only
 have hcl:=cycTo_len t b k
 have hbd:(blsD (cycTo t b k)).length=k:=by rw [bls_len]; exact hcl
 have hct:=count_le (cycTo t b k)
 by_cases hkn:k < t.nz.length
 ·have c12_1:=k12 h hkn b hbl hb
  have c12_2:=k12 h hkn r hrl hr
  rw [hfr k hkn] at c12_2
  have c12_2:CallDet Try.prog 12 [.d t.d,.d (.int .i64 k),.d (.slice 1 (ints r))] [.int .i64 (smF t k r t.sg.length),.int .i64 0]:=c12_2
  have hb1:(blsD (cycTo t b k)).length+1≤2 ^ 47:=by omega
  have hb2:((blsD (cycTo t b k)).length+1) * 1≤2 ^ 47:=by omega
  have fin:∀ (c:List Data) (m:Int),c=blsD (cycTo t b (k+1))→m=((cycTo t b (k+1)).count true:Nat)→∃ a':Nat,(a'≤t.nz.length∧t.nz.length - a' < t.nz.length - k)∧(⟨[(1,.d (.int .u8 q)),(2,.d (.slice 2 (u8ps l))),(3,.ptr 0 0),(7,.d (.slice 1 (ints b))),(9,.d (.slice 1 (ints r))),(11,.sl 2 c.length),(12,.d (.int .i64 m)),(97,.d (.int .i64 ((rws t.nz).length:Int))),(98,.d (.int .i64 ((k:Int)+1)))],[.cbox [.slice 1 (ints t.sg),.slice 1 (rws t.nz),.int .i64 t.mg,.int .i64 t.mx,.slice 1 (ints t.nt)],.none,.row 4 1 c false,.none,.none,.none,.none,.none,.none,.none,.none]⟩:St)=⟨[(1,.d (.int .u8 q)),(2,.d (.slice 2 (u8ps l))),(3,.ptr 0 0),(7,.d (.slice 1 (ints b))),(9,.d (.slice 1 (ints r))),(11,.sl 2 (blsD (cycTo t b a')).length),(12,.d (.int .i64 ((cycTo t b a').count true:Nat))),(97,.d (.int .i64 ((rws t.nz).length:Int))),(98,.d (.int .i64 (a':Nat)))],[.cbox [.slice 1 (ints t.sg),.slice 1 (rws t.nz),.int .i64 t.mg,.int .i64 t.mx,.slice 1 (ints t.nt)],.none,.row 4 1 (blsD (cycTo t b a')) false,.none,.none,.none,.none,.none,.none,.none,.none]⟩:=fun c m e e2=>⟨k+1,⟨by omega,by omega⟩,by rw [e,e2]; rfl⟩
  have ec:blsD (cycTo t b (k+1))=blsD (cycTo t b k)++[.bool (fitF t k b)]:=by rw [cycTo]; unfold blsD; rw [List.map_append]; rfl
  have em:(cycTo t b (k+1)).count true=(cycTo t b k).count true+(bif fitF t k b then 1 else 0):=by
   rw [cycTo,List.count_append]; cases fitF t k b <;> rfl
  rw [ec,em] at fin
  generalize smF t k r t.sg.length=w1 at *
  generalize smF t k b t.sg.length=w2 at *
  cases hf:fitF t k b
  ·rw [hf] at c12_1 fin
   have c12_1:CallDet Try.prog 12 [.d t.d,.d (.int .i64 k),.d (.slice 1 (ints b))] [.int .i64 0,.int .i64 20]:=c12_1
   refine And.intro rfl ?_
   refine brk_lt (fun t1=>?_) (fun t1=>?_)
   refine Exists.intro _ (And.intro c9_ ?_)
   refine Exists.intro _ (And.intro c13_1 ?_)
   refine Exists.intro _ (And.intro c12_1 ?_)
   refine And.intro rfl ?_
   refine And.intro rfl ?_
   refine Exists.intro _ (And.intro c9_ ?_)
   refine Exists.intro _ (And.intro c13_2 ?_)
   refine Exists.intro _ (And.intro c12_2 ?_)
   refine And.intro rfl ?_
   refine And.intro rfl ?_
   refine And.intro rfl ?_
   refine And.intro rfl ?_
   refine And.intro rfl ?_
   refine And.intro ?_ ?_
   refine And.intro ?_ ?_
   exact rfl
   refine And.intro ?_ ?_
   exact rfl
   refine And.intro ?_ ?_
   exact rfl
   refine And.intro ?_ ?_
   assumption
   assumption
   refine And.intro rfl ?_
   refine ar_add ?_ ?_
   refine And.intro ?_ ?_
   (show (-9223372036854775808:Int)≤(↑k:Int)+(1:Int); omega)
   (show (↑k:Int)+(1:Int)≤(9223372036854775807:Int); omega)
   rotate_left
   (exfalso; omega)
   all_goals exact fin _ _ rfl rfl
  ·rw [hf] at c12_1 fin
   have c12_1:CallDet Try.prog 12 [.d t.d,.d (.int .i64 k),.d (.slice 1 (ints b))] [.int .i64 w2,.int .i64 0]:=c12_1
   refine And.intro rfl ?_
   refine brk_lt (fun t1=>?_) (fun t1=>?_)
   refine Exists.intro _ (And.intro c9_ ?_)
   refine Exists.intro _ (And.intro c13_1 ?_)
   refine Exists.intro _ (And.intro c12_1 ?_)
   refine And.intro rfl ?_
   refine And.intro rfl ?_
   refine Exists.intro _ (And.intro c9_ ?_)
   refine Exists.intro _ (And.intro c13_2 ?_)
   refine Exists.intro _ (And.intro c12_2 ?_)
   refine And.intro rfl ?_
   refine And.intro rfl ?_
   refine And.intro rfl ?_
   refine And.intro rfl ?_
   refine And.intro rfl ?_
   refine And.intro ?_ ?_
   refine And.intro ?_ ?_
   exact rfl
   refine And.intro ?_ ?_
   exact rfl
   refine And.intro ?_ ?_
   exact rfl
   refine And.intro ?_ ?_
   assumption
   assumption
   refine And.intro rfl ?_
   refine ar_add ?_ ?_
   refine And.intro ?_ ?_
   (show (-9223372036854775808:Int)≤(↑(List.count true (cycTo t b k)):Int)+(1:Int); omega)
   (show (↑(List.count true (cycTo t b k)):Int)+(1:Int)≤(9223372036854775807:Int); omega)
   refine ar_add ?_ ?_
   refine And.intro ?_ ?_
   (show (-9223372036854775808:Int)≤(↑k:Int)+(1:Int); omega)
   (show (↑k:Int)+(1:Int)≤(9223372036854775807:Int); omega)
   rotate_left
   (exfalso; omega)
   all_goals exact fin _ _ rfl rfl
 ·have e7:k=t.nz.length:=by omega
  subst e7
  refine And.intro rfl ?_
  refine brk_lt (fun t1=>?_) (fun t1=>?_)
  (exfalso; omega)
  rotate_left
  all_goals exact hQ
end Vc
