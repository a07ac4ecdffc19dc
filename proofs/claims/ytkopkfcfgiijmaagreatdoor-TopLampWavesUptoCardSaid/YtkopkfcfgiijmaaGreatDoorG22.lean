import Derived.Test.YtkopkfcfgiijmaaGreatDoorG21
set_option linter.unusedSectionVars false
set_option linter.unusedVariables false
set_option linter.unusedSimpArgs false
set_option maxRecDepth 10000
set_option maxHeartbeats 4000000
namespace Vc
open Go Go.Proofs
def u8p (p:Int × Int):Data:=.agg [.int .u8 p.1,.int .u8 p.2]
def u8ps (l:List (Int × Int)):List Data:=l.map u8p
theorem u8ps_len (l:List (Int × Int)):(u8ps l).length=l.length:=by unfold u8ps; exact List.length_map _
theorem u8ps_at {l:List (Int × Int)} {k:Nat} {p:Int × Int} (h:l[k]?=some p):(u8ps l)[((k:Int)).toNat]?=some (.agg [.int .u8 p.1,.int .u8 p.2]):=by
 show (u8ps l)[k]?=_
 unfold u8ps; rw [List.getElem?_map,h]; rfl
def redp (n:Int) (p:Int × Int):Int × Int:=(IntKind.i64.wrap p.1 % n,IntKind.i64.wrap p.2 % n)
theorem first_all:∀ (l:List Int),(∀ x∈l,x=0)→firstOf l=0
 | [],_=>rfl
 | x::r,h=>by rw [first_0 (h x (.head _))]; exact first_all r (fun y hy=>h y (.tail _ hy))
theorem pair_red {m:Ms} {n:Int} (hn:0 < n) (h:n=(m.ns.length:Int)) (q:Int × Int):pairE m (redp n q)=0:=by
 have a0:=Int.emod_nonneg (IntKind.i64.wrap q.1) (b:=n) (by omega)
 have a1:=Int.emod_lt_of_pos (IntKind.i64.wrap q.1) hn
 have b0:=Int.emod_nonneg (IntKind.i64.wrap q.2) (b:=n) (by omega)
 have b1:=Int.emod_lt_of_pos (IntKind.i64.wrap q.2) hn
 unfold pairE redp
 refine first_all _ (fun x hx=>?_)
 have hz:∀ i:Int,0≤i→i < n→m.nodeE i=0:=fun i h0 h1=>by
  unfold Ms.nodeE outN
  rw [decide_eq_false (by omega),decide_eq_false (by omega)]; rfl
 cases hx with
 | head=>exact hz _ a0 a1
 | tail _ hx=>cases hx with
  | head=>exact hz _ b0 b1
  | tail _ hx=>cases hx
theorem ens_at0 {s:Sts} {k:Nat} (h:k < s.es.length):(ens s.es)[((k:Int)).toNat]?=some (.agg [.int .i64 (s.at k).nu,.int .i64 (s.at k).di,.int .i64 (s.at k).ne]):=by
 show (ens s.es)[k]?=_
 unfold ens
 rw [List.getElem?_map,Sts.at_get h]; rfl
theorem stns_app (l:List L.Stn) (x:L.Stn):L.stns (l++[x])=L.stns l++[.agg [.str x.nm,.int .i64 x.pri,.int .i64 x.fr,.int .i64 x.wt]]:=by unfold L.stns; rw [List.map_append]; rfl
@[irreducible] def seg3s:ACode:=(.post [3,7,9,12,13,15,17,19,98,99] [0,1,2,3,4,5,6,7,8,9]
 (.block 4
 (.asrow 9 54 4 19
 (.keep [3,7,9,12,13,15,17,18,19,98,99,115,116,117] [0,1,2,3,4,5,6]
 (.loop
 (.post [3,7,9,12,13,15,17,18,19,98,99,115,116,117] [7,8,9]
 (.seq
 (.reg [] [⟨some 118,.cmp .lss (.tmp 117) (.tmp 116),none⟩])
 (.seq
 (.cond (.tmp 118)
 .skip
 (.exit 4))
 (.seq
 (.block 5
 (.seq
 (.reg [7] [⟨some 119,.mov (.tmp 117),none⟩,
 ⟨some 120,.ixa 3 (.tmp 115) (.tmp 117),none⟩,
 ⟨some 121,.ld true 3 (.tmp 120),none⟩,
 ⟨some 21,.alloc 7 [(.d (.int .i64 0)),(.d (.int .i64 0)),(.d (.int .i64 0))],none⟩,
 ⟨some 20,.mov (.tmp 119),none⟩,
 ⟨none,.st 3 (.tmp 21) (.tmp 121),none⟩])
 (.seq
 (.seq
 (.regd [] [⟨some 122,.fad 0 (.tmp 21),none⟩,
 ⟨some 123,.ld false 1 (.tmp 122),none⟩,
 ⟨some 124,.cmp .gtr (.tmp 123) (.cst (.d (.int .i64 0))),none⟩,
 ⟨some 125,.mov (.tmp 12),none⟩,
 ⟨some 126,.mov (.tmp 20),none⟩,
 ⟨some 127,.ixa 1 (.tmp 125) (.tmp 126),none⟩,
 ⟨some 128,.ld false 1 (.tmp 127),none⟩,
 ⟨some 129,.cmp .geq (.tmp 128) (.cst (.d (.int .i64 0))),none⟩,
 ⟨some 130,.mov (.tmp 129),none⟩,
 ⟨some 131,.mov (.tmp 12),some (130,true)⟩,
 ⟨some 132,.mov (.tmp 20),some (130,true)⟩,
 ⟨some 133,.ixa 1 (.tmp 131) (.tmp 132),some (130,true)⟩,
 ⟨some 134,.ld false 1 (.tmp 133),some (130,true)⟩,
 ⟨some 135,.mov (.tmp 18),some (130,true)⟩,
 ⟨some 136,.cmp .leq (.tmp 134) (.tmp 135),some (130,true)⟩,
 ⟨some 137,.pick (.tmp 130) (.tmp 136) (.cst (.d (.bool false))),none⟩,
 ⟨some 138,.beq true (.tmp 124) (.tmp 137),none⟩] [(0,3),(1,3),(2,3),(0,4),(1,4),(2,4),(3,4),(0,5),(1,5),(2,5),(0,6),(1,6),(2,6),(0,7),(1,7),(2,7),(0,8),(1,8),(2,8),(0,9),(1,9),(2,9),(0,10),(1,10),(2,10),(9,10),(0,11),(1,11),(2,11),(0,12),(1,12),(2,12),(0,13),(1,13),(2,13),(9,13),(10,13),(11,13),(12,13),(0,14),(1,14),(2,14),(0,15),(1,15),(2,15)])
 (.cond (.tmp 138)
 (.seq
 (.reg [] [⟨some 6,.mov (.cst (.d (.bool false))),none⟩])
 .ret)
 .skip))
 (.seq
 (.reg [] [⟨some 139,.mov (.tmp 12),none⟩,
 ⟨some 140,.mov (.tmp 20),none⟩,
 ⟨some 141,.ixa 1 (.tmp 139) (.tmp 140),none⟩,
 ⟨some 142,.ld false 1 (.tmp 141),none⟩,
 ⟨some 143,.mov (.tmp 18),none⟩,
 ⟨some 144,.cmp .eql (.tmp 142) (.tmp 143),none⟩])
 (.cond (.tmp 144)
 (.reg [8,9] [⟨some 145,.mov (.tmp 19),none⟩,
 ⟨some 146,.fad 0 (.tmp 3),none⟩,
 ⟨some 147,.ld false 1 (.tmp 146),none⟩,
 ⟨some 148,.mov (.tmp 20),none⟩,
 ⟨some 149,.ixa 1 (.tmp 147) (.tmp 148),none⟩,
 ⟨some 150,.ld false 1 (.tmp 149),none⟩,
 ⟨some 151,.mov (.tmp 20),none⟩,
 ⟨some 152,.arith .rem .i64 (.tmp 151) (.cst (.d (.int .i64 4))),none⟩,
 ⟨some 153,.build [(.d (.str [])),(.d (.int .i64 0)),(.d (.int .i64 0)),(.d (.int .i64 0))] [(0,1,(.tmp 150)),(1,1,(.tmp 152)),(2,1,(.cst (.d (.int .i64 1))))],none⟩,
 ⟨some 154,.bsl 8 54 4 1 [(.agg [(.str []),(.int .i64 0),(.int .i64 0),(.int .i64 0)])] [(0,(.tmp 153))],none⟩,
 ⟨some 155,.app 9 54 4 40 (.tmp 145) (.tmp 154),none⟩,
 ⟨some 19,.mov (.tmp 155),none⟩])
 .skip)))))
 (.reg [] [⟨some 156,.arith .add .i64 (.tmp 117) (.cst (.d (.int .i64 1))),none⟩,
 ⟨some 117,.mov (.tmp 156),none⟩]))))))))))
@[irreducible] def seg3w:ACode:=(.post [3,7,9,12,13,15,17,22,98,99] [0,1,2,3,4,5,6,7,8,9,10,11]
 (.block 6
 (.keep [3,7,9,12,13,15,17,22,23,24,98,99,198,199] [0,1,2,3,4,5,6,7,8,9,10,11]
 (.loop
 (.post [3,7,9,12,13,15,17,22,23,24,98,99,198,199] []
 (.seq
 (.reg [] [⟨some 200,.cmp .lss (.tmp 199) (.tmp 198),none⟩])
 (.seq
 (.cond (.tmp 200)
 .skip
 (.exit 6))
 (.seq
 (.block 7
 (.seq
 (.reg [] [⟨some 201,.mov (.tmp 199),none⟩,
 ⟨some 28,.mov (.tmp 201),none⟩])
 (.seq
 (.reg [] [⟨some 202,.mov (.tmp 23),none⟩,
 ⟨some 203,.mov (.tmp 28),none⟩,
 ⟨some 204,.call 14 [(.tmp 202),(.tmp 203)],none⟩,
 ⟨some 205,.not (.tmp 204),none⟩,
 ⟨some 206,.mov (.tmp 205),none⟩,
 ⟨some 207,.mov (.tmp 24),some (206,false)⟩,
 ⟨some 208,.mov (.tmp 28),some (206,false)⟩,
 ⟨some 209,.ixa 4 (.tmp 207) (.tmp 208),some (206,false)⟩,
 ⟨some 210,.fad 2 (.tmp 209),some (206,false)⟩,
 ⟨some 211,.ld false 1 (.tmp 210),some (206,false)⟩,
 ⟨some 212,.cmp .neq (.tmp 211) (.cst (.d (.int .i64 0))),some (206,false)⟩,
 ⟨some 213,.pick (.tmp 206) (.cst (.d (.bool true))) (.tmp 212),none⟩])
 (.cond (.tmp 213)
 (.seq
 (.reg [] [⟨some 6,.mov (.cst (.d (.bool false))),none⟩])
 .ret)
 .skip))))
 (.reg [] [⟨some 214,.arith .add .i64 (.tmp 199) (.cst (.d (.int .i64 1))),none⟩,
 ⟨some 199,.mov (.tmp 214),none⟩])))))))))
@[irreducible] def seg3r:ACode:=(.post [13,17] [0,1,2,3,4,5,6,7,8,9,10,11,12,13,14]
 (.block 2
 (.keep [3,7,9,12,13,15,17,98,99] [0,1,2,3,4,5,6]
 (.loop
 (.post [3,7,9,12,13,15,17,98,99] [7,8,9,10,11,12,13,14]
 (.seq
 (.reg [] [⟨some 100,.cmp .lss (.tmp 99) (.tmp 98),none⟩])
 (.seq
 (.cond (.tmp 100)
 .skip
 (.exit 2))
 (.seq
 (.block 3
 (.seq
 (.reg [] [⟨some 101,.mov (.tmp 99),none⟩,
 ⟨some 18,.mov (.tmp 101),none⟩])
 (.seq
 (.seq
 (.regd [] [⟨some 102,.fad 2 (.tmp 15),none⟩,
 ⟨some 103,.ld false 1 (.tmp 102),none⟩,
 ⟨some 104,.len (.tmp 103),none⟩,
 ⟨some 105,.mov (.tmp 7),none⟩,
 ⟨some 106,.cmp .neq (.tmp 104) (.tmp 105),none⟩,
 ⟨some 107,.mov (.tmp 106),none⟩,
 ⟨some 108,.ld true 2 (.tmp 3),some (107,false)⟩,
 ⟨some 109,.ld true 3 (.tmp 15),some (107,false)⟩,
 ⟨some 110,.call 11 [(.tmp 109)],some (107,false)⟩,
 ⟨some 111,.call 10 [(.tmp 108),(.tmp 110)],some (107,false)⟩,
 ⟨some 112,.cmp .neq (.tmp 111) (.cst (.d (.int .i64 0))),some (107,false)⟩,
 ⟨some 113,.pick (.tmp 107) (.cst (.d (.bool true))) (.tmp 112),none⟩] [(0,3),(1,3),(2,3),(6,7),(6,8)])
 (.cond (.tmp 113)
 (.seq
 (.reg [] [⟨some 6,.mov (.cst (.d (.bool false))),none⟩])
 .ret)
 .skip))
 (.seq
 (.reg [] [⟨some 19,.mov (.cst (.nils 4)),none⟩])
 (.seq
 (.seq
 (.reg [] [⟨some 114,.fad 2 (.tmp 15),none⟩,
 ⟨some 115,.ld false 1 (.tmp 114),none⟩,
 ⟨some 116,.len (.tmp 115),none⟩,
 ⟨some 117,.mov (.cst (.d (.int .i64 0))),none⟩])
 (.keep [3,7,9,12,13,15,17,18,19,98,99,115,116,117] [0,1,2,3,4,5,6] seg3s))
 (.seq
 (.seq
 (.reg [] [⟨some 157,.mov (.tmp 19),none⟩,
 ⟨some 158,.len (.tmp 157),none⟩,
 ⟨some 22,.mov (.tmp 158),none⟩])
 (.seq
 (.reg [] [⟨some 159,.mov (.tmp 22),none⟩,
 ⟨some 160,.cmp .gtr (.tmp 159) (.cst (.d (.int .i64 0))),none⟩])
 (.cond (.tmp 160)
 (.seq
 (.reg [10,11] [⟨some 162,.bsl 10 54 4 0 [] [],none⟩,
 ⟨some 163,.mov (.tmp 19),none⟩,
 ⟨some 164,.app 11 54 4 40 (.tmp 162) (.tmp 163),none⟩,
 ⟨some 165,.mov (.tmp 22),none⟩,
 ⟨some 166,.call 12 [(.tmp 164),(.tmp 165)],none⟩,
 ⟨some 161,.mov (.tmp 166),none⟩,
 ⟨some 167,.ext 0 (.tmp 161),none⟩,
 ⟨some 168,.ext 1 (.tmp 161),none⟩,
 ⟨some 169,.ext 2 (.tmp 161),none⟩,
 ⟨some 23,.mov (.tmp 167),none⟩,
 ⟨some 24,.mov (.tmp 168),none⟩,
 ⟨some 25,.mov (.tmp 169),none⟩])
 (.seq
 (.reg [] [⟨some 171,.mov (.tmp 22),none⟩,
 ⟨some 172,.call 13 [(.tmp 171)],none⟩,
 ⟨some 170,.mov (.tmp 172),none⟩,
 ⟨some 173,.ext 0 (.tmp 170),none⟩,
 ⟨some 174,.ext 1 (.tmp 170),none⟩,
 ⟨some 26,.mov (.tmp 173),none⟩,
 ⟨some 27,.mov (.tmp 174),none⟩])
 (.seq
 (.seq
 (.reg [] [⟨some 175,.mov (.tmp 25),none⟩,
 ⟨some 176,.cmp .neq (.tmp 175) (.cst (.d (.int .i64 0))),none⟩,
 ⟨some 177,.mov (.tmp 176),none⟩,
 ⟨some 178,.mov (.tmp 27),some (177,false)⟩,
 ⟨some 179,.cmp .neq (.tmp 178) (.cst (.d (.int .i64 0))),some (177,false)⟩,
 ⟨some 180,.pick (.tmp 177) (.cst (.d (.bool true))) (.tmp 179),none⟩,
 ⟨some 181,.mov (.tmp 180),none⟩,
 ⟨some 182,.mov (.tmp 23),some (181,false)⟩,
 ⟨some 183,.len (.tmp 182),some (181,false)⟩,
 ⟨some 184,.mov (.tmp 22),some (181,false)⟩,
 ⟨some 185,.cmp .neq (.tmp 183) (.tmp 184),some (181,false)⟩,
 ⟨some 186,.pick (.tmp 181) (.cst (.d (.bool true))) (.tmp 185),none⟩,
 ⟨some 187,.mov (.tmp 186),none⟩,
 ⟨some 188,.mov (.tmp 22),some (187,false)⟩,
 ⟨some 189,.mov (.tmp 26),some (187,false)⟩,
 ⟨some 190,.cmp .gtr (.tmp 188) (.tmp 189),some (187,false)⟩,
 ⟨some 191,.pick (.tmp 187) (.cst (.d (.bool true))) (.tmp 190),none⟩,
 ⟨some 192,.mov (.tmp 191),none⟩,
 ⟨some 193,.mov (.tmp 24),some (192,false)⟩,
 ⟨some 194,.len (.tmp 193),some (192,false)⟩,
 ⟨some 195,.mov (.tmp 22),some (192,false)⟩,
 ⟨some 196,.cmp .neq (.tmp 194) (.tmp 195),some (192,false)⟩,
 ⟨some 197,.pick (.tmp 192) (.cst (.d (.bool true))) (.tmp 196),none⟩])
 (.cond (.tmp 197)
 (.seq
 (.reg [] [⟨some 6,.mov (.cst (.d (.bool false))),none⟩])
 .ret)
 .skip))
 (.seq
 (.seq
 (.reg [] [⟨some 198,.mov (.tmp 22),none⟩,
 ⟨some 199,.mov (.cst (.d (.int .i64 0))),none⟩])
 (.keep [3,7,9,12,13,15,17,22,23,24,98,99,198,199] [0,1,2,3,4,5,6,7,8,9,10,11] seg3w))
 (.reg [] [⟨some 215,.mov (.tmp 17),none⟩,
 ⟨some 216,.mov (.tmp 22),none⟩,
 ⟨some 217,.arith .add .i64 (.tmp 215) (.tmp 216),none⟩,
 ⟨some 17,.mov (.tmp 217),none⟩])))))
 .skip)))
 (.seq
 (.regd [12,13,14] [⟨some 219,.ld true 2 (.tmp 3),none⟩,
 ⟨some 220,.call 8 [(.tmp 219)],none⟩,
 ⟨some 221,.ld true 3 (.tmp 15),none⟩,
 ⟨some 222,.call 11 [(.tmp 221)],none⟩,
 ⟨some 223,.call 16 [(.tmp 222)],none⟩,
 ⟨some 224,.bsl 12 31 2 0 [] [],none⟩,
 ⟨some 225,.mov (.tmp 9),none⟩,
 ⟨some 226,.app 13 31 2 16 (.tmp 224) (.tmp 225),none⟩,
 ⟨some 227,.call 15 [(.tmp 220),(.tmp 223),(.tmp 226)],none⟩,
 ⟨some 218,.mov (.tmp 227),none⟩,
 ⟨some 228,.ext 0 (.tmp 218),none⟩,
 ⟨some 229,.ext 1 (.tmp 218),none⟩,
 ⟨some 29,.alloc 14 [(.d (.int .i64 0)),(.d (.int .i64 0)),(.nils 3)],none⟩,
 ⟨none,.st 3 (.tmp 29) (.tmp 228),none⟩,
 ⟨some 30,.mov (.tmp 229),none⟩] [(0,2),(1,2),(0,5),(1,5),(2,5),(3,5),(4,5),(0,6),(1,6),(2,6),(3,6),(4,6),(5,6),(10,11),(0,12),(1,12),(2,12),(3,12),(4,12),(5,12),(6,12),(7,12),(8,12),(9,12),(10,12),(11,12),(11,13)])
 (.seq
 (.seq
 (.reg [] [⟨some 230,.mov (.tmp 30),none⟩,
 ⟨some 231,.cmp .neq (.tmp 230) (.cst (.d (.int .i64 0))),none⟩])
 (.cond (.tmp 231)
 (.seq
 (.reg [] [⟨some 6,.mov (.cst (.d (.bool false))),none⟩])
 .ret)
 .skip))
 (.reg [] [⟨some 232,.ld true 3 (.tmp 29),none⟩,
 ⟨none,.st 3 (.tmp 15) (.tmp 232),none⟩])))))))))
 (.reg [] [⟨some 233,.arith .add .i64 (.tmp 99) (.cst (.d (.int .i64 1))),none⟩,
 ⟨some 99,.mov (.tmp 233),none⟩])))))))))
theorem v3s {n : Nat} {m : Ms} {s : Sts} {f r al : Int} {lost : List (Int × Int)} {Q : AExit → St → Prop} (hf : m.fine) (hn8 : m.ns.length ≤ 8) (g : Good m s) (hr : 0 ≤ r ∧ r ≤ 100)
  (hw:∀ k:Nat,k < m.ns.length→decide (0 < (s.at k).nu)=(decide (0≤at0 (m.floods lost f) k)&&decide (at0 (m.floods lost f) k≤r)))
  (h:Q .normal ⟨[(3,.ptr 0 0),(7,.d (.int .i64 (strs m.ns).length)),(9,.sl 3 (prs lost).length),(12,.d (.slice 1 (ints (m.floods lost f)))),(13,.d (.int .i64 (known (m.floods lost f)))),(15,.ptr 6 0),(17,.d (.int .i64 al)),(19,.sl 9 (L.stns (stnN m.ns (m.floods lost f) r m.ns.length)).length),(98,.d (.int .i64 (strs m.ns).length)),(99,.d (.int .i64 r))],[.cbox [.slice 1 (strs m.ns),.slice 3 (lks m.ls)],.none,.none,.row 31 2 (prs lost) false,.none,.none,.box [.d (.int .i64 s.co),.d (.int .i64 s.nu),.d (.slice 3 (ens s.es))],.none,.none,.row 54 4 (L.stns (stnN m.ns (m.floods lost f) r m.ns.length)) false,.none,.none,.none,.none,.none]⟩) :
  vc Tryz.prog n seg3s ⟨[(3,.ptr 0 0),(7,.d (.int .i64 (strs m.ns).length)),(9,.sl 3 (prs lost).length),(12,.d (.slice 1 (ints (m.floods lost f)))),(13,.d (.int .i64 (known (m.floods lost f)))),(15,.ptr 6 0),(17,.d (.int .i64 al)),(18,.d (.int .i64 r)),(19,.nils 4),(98,.d (.int .i64 (strs m.ns).length)),(99,.d (.int .i64 r)),(115,.d (.slice 3 (ens s.es))),(116,.d (.int .i64 (ens s.es).length)),(117,.d (.int .i64 0))],[.cbox [.slice 1 (strs m.ns),.slice 3 (lks m.ls)],.none,.none,.row 31 2 (prs lost) false,.none,.none,.box [.d (.int .i64 s.co),.d (.int .i64 s.nu),.d (.slice 3 (ens s.es))],.none,.none,.none,.none,.none,.none,.none,.none]⟩ Q:=by
 unfold seg3s
 have hsl:=strs_len m.ns
 have hle:=g.len
 have hel:=ens_len s.es
 have hfl:=floods_len m lost f
 rotate_left
 refine loop_u (fun k:Nat=>[(19,.sl 9 (L.stns (stnN m.ns (m.floods lost f) r k)).length),(117,.d (.int .i64 k))]) (fun k=>[(9,.row 54 4 (L.stns (stnN m.ns (m.floods lost f) r k)) false)]) (fun k=>k≤m.ns.length) (fun k=>m.ns.length - k) 0 rfl (Nat.zero_le _) ?_
 intro k hk
 have hk:k≤m.ns.length:=hk
 dsimp only
 have hsl2:(L.stns (stnN m.ns (m.floods lost f) r k)).length≤k:=by
  have h1:=stnN_len m.ns (m.floods lost f) r k
  have h2:cnt k (fun i=>at0 (m.floods lost f) i==r)≤k:=by
   have:=@cnt_le k (fun i=>at0 (m.floods lost f) i==r) (fun _=>true) (fun _ _ _=>rfl)
   rw [cnt_all] at this; exact this
  unfold L.stns; rw [List.length_map]; omega
 by_cases hkn:k < m.ns.length
 ·refine Exists.elim (get_lt m.ns hkn) fun nm hnm=>?_
  have hx:=strs_at hnm
  have hen:=ens_at0 (s:=s) (k:=k) (by omega)
  have hv:(ints (m.floods lost f))[((k:Int)).toNat]?=some (.int .i64 (at0 (m.floods lost f) k)):=ints_at0 (by omega)
  have hwk:=hw k hkn
  have fin : ∀ X, X = L.stns (stnN m.ns (m.floods lost f) r (k + 1)) → ∃ a' : Nat, (a' ≤ m.ns.length ∧ m.ns.length - a' < m.ns.length - k) ∧ (⟨[(3, .ptr 0 0), (7, .d (.int .i64 (strs m.ns).length)), (9, .sl 3 (prs lost).length), (12, .d (.slice 1 (ints (m.floods lost f)))), (13, .d (.int .i64 (known (m.floods lost f)))), (15, .ptr 6 0), (17, .d (.int .i64 al)), (18, .d (.int .i64 r)), (19, .sl 9 X.length), (98, .d (.int .i64 (strs m.ns).length)), (99, .d (.int .i64 r)), (115, .d (.slice 3 (ens s.es))), (116, .d (.int .i64 (ens s.es).length)), (117, .d (.int .i64 ((k : Int) + 1)))], [.cbox [.slice 1 (strs m.ns), .slice 3 (lks m.ls)], .none, .none, .row 31 2 (prs lost) false, .none, .none, .box [.d (.int .i64 s.co), .d (.int .i64 s.nu), .d (.slice 3 (ens s.es))], .none, .none, .row 54 4 X false, .none, .none, .none, .none, .none]⟩ : St) =
    ⟨[(3,.ptr 0 0),(7,.d (.int .i64 (strs m.ns).length)),(9,.sl 3 (prs lost).length),(12,.d (.slice 1 (ints (m.floods lost f)))),(13,.d (.int .i64 (known (m.floods lost f)))),(15,.ptr 6 0),(17,.d (.int .i64 al)),(18,.d (.int .i64 r)),(19,.sl 9 (L.stns (stnN m.ns (m.floods lost f) r a')).length),(98,.d (.int .i64 (strs m.ns).length)),(99,.d (.int .i64 r)),(115,.d (.slice 3 (ens s.es))),(116,.d (.int .i64 (ens s.es).length)),(117,.d (.int .i64 (a':Nat)))],[.cbox [.slice 1 (strs m.ns),.slice 3 (lks m.ls)],.none,.none,.row 31 2 (prs lost) false,.none,.none,.box [.d (.int .i64 s.co),.d (.int .i64 s.nu),.d (.slice 3 (ens s.es))],.none,.none,.row 54 4 (L.stns (stnN m.ns (m.floods lost f) r a')) false,.none,.none,.none,.none,.none]⟩:=fun X hX=>⟨k+1,⟨by omega,by omega⟩,by rw [hX]; rfl⟩
  by_cases hr1:at0 (m.floods lost f) k=r
  ·rw [stnN_yes hnm hr1,stns_app] at fin
   have e1:(decide (0 < (s.at k).nu) != decide (at0 (m.floods lost f) k≤r))=false:=by
    rw [hwk,hr1,decide_eq_true (show 0≤r from hr.1),decide_eq_true (Int.le_refl r)]; rfl
   have hq0:0≤at0 (m.floods lost f) k:=by omega
   refine sd ?_
   refine b_lt (fun t1=>?_) (fun t1=>?_)
   refine ix_at hen ?_ ?_
   (show (0:Int)≤(↑k:Int); omega)
   refine sd ?_
   refine ix_at hv ?_ ?_
   (show (0:Int)≤(↑k:Int); omega)
   refine sd ?_
   refine b_le (fun t2=>?_) (fun t2=>?_)
   refine ix_at hv ?_ ?_
   (show (0:Int)≤(↑k:Int); omega)
   refine sd ?_
   refine b_f e1 ?_
   refine ix_at hv ?_ ?_
   (show (0:Int)≤(↑k:Int); omega)
   refine sd ?_
   refine b_eq (fun t3=>?_) (fun t3=>?_)
   refine ix_at hx ?_ ?_
   (show (0:Int)≤(↑k:Int); omega)
   refine ar_rem ?_ ?_
   refine an ?_ ?_
   (show (0:Int)≤(↑k:Int); omega)
   (show (1:Int)≤(4:Int); omega)
   refine sd ?_
   refine sd ?_
   refine sd ?_
   refine an ?_ ?_
   refine an ?_ ?_
   exact rfl
   refine an ?_ ?_
   exact rfl
   refine an ?_ ?_
   exact rfl
   refine an ?_ ?_
   (show (List.length (L.stns (stnN (Ms.ns m) (Ms.floods m lost f) r k))+(1:Nat)) * (40:Nat)≤(2:Nat) ^ (47:Nat); omega)
   (show List.length (L.stns (stnN (Ms.ns m) (Ms.floods m lost f) r k))+(1:Nat)≤(2:Nat) ^ (47:Nat); omega)
   refine ar_add ?_ ?_
   refine an ?_ ?_
   (show (-9223372036854775808:Int)≤(↑k:Int)+(1:Int); omega)
   (show (↑k:Int)+(1:Int)≤(9223372036854775807:Int); omega)
   rotate_left
   (exfalso; omega)
   (exfalso; omega)
   (exfalso; omega)
   all_goals exact fin _ rfl
  ·rw [stnN_no hr1] at fin
   by_cases hq0:0≤at0 (m.floods lost f) k
   ·have e1 : (decide (0 < (s.at k).nu) != decide (at0 (m.floods lost f) k ≤ r)) = false := by
     rw [hwk,decide_eq_true hq0,Bool.true_and]; simp
    refine sd ?_
    refine b_lt (fun t1=>?_) (fun t1=>?_)
    refine ix_at hen ?_ ?_
    (show (0:Int)≤(↑k:Int); omega)
    refine sd ?_
    refine ix_at hv ?_ ?_
    (show (0:Int)≤(↑k:Int); omega)
    refine sd ?_
    refine b_le (fun t2=>?_) (fun t2=>?_)
    refine ix_at hv ?_ ?_
    (show (0:Int)≤(↑k:Int); omega)
    refine sd ?_
    refine b_f e1 ?_
    refine ix_at hv ?_ ?_
    (show (0:Int)≤(↑k:Int); omega)
    refine sd ?_
    refine b_eq (fun t3=>?_) (fun t3=>?_)
    (exfalso; omega)
    refine ar_add ?_ ?_
    refine an ?_ ?_
    (show (-9223372036854775808:Int)≤(↑k:Int)+(1:Int); omega)
    (show (↑k:Int)+(1:Int)≤(9223372036854775807:Int); omega)
    rotate_left
    (exfalso; omega)
    (exfalso; omega)
    all_goals exact fin _ rfl
   ·have e1 : (decide (0 < (s.at k).nu) != false) = false := by
     rw [hwk,decide_eq_false hq0]; rfl
    refine sd ?_
    refine b_lt (fun t1=>?_) (fun t1=>?_)
    refine ix_at hen ?_ ?_
    (show (0:Int)≤(↑k:Int); omega)
    refine sd ?_
    refine ix_at hv ?_ ?_
    (show (0:Int)≤(↑k:Int); omega)
    refine sd ?_
    refine b_le (fun t2=>?_) (fun t2=>?_)
    (exfalso; omega)
    refine sd ?_
    refine b_f e1 ?_
    refine ix_at hv ?_ ?_
    (show (0:Int)≤(↑k:Int); omega)
    refine sd ?_
    refine b_eq (fun t3=>?_) (fun t3=>?_)
    (exfalso; omega)
    refine ar_add ?_ ?_
    refine an ?_ ?_
    (show (-9223372036854775808:Int)≤(↑k:Int)+(1:Int); omega)
    (show (↑k:Int)+(1:Int)≤(9223372036854775807:Int); omega)
    rotate_left
    (exfalso; omega)
    all_goals exact fin _ rfl
 ·have ek:k=m.ns.length:=by omega
  subst ek
  refine sd ?_
  refine b_lt (fun t1=>?_) (fun t1=>?_)
  (exfalso; omega)
  rotate_left
  all_goals exact h
theorem v3w {n : Nat} {m : Ms} {s : Sts} {f r al N : Int} {lost : List (Int × Int)} {w : List Int} {rest : List L.Stn} {Q : AExit → St → Prop} (hN : N = (rest.length : Int)) (h8 : rest.length ≤ 8) (hwl : w.length ≤ 8)
  (hw:∀ i:Nat,i < rest.length→(i:Int)∈w) (hr:∀ x∈rest,x.fr=0)
  (h:Q .normal ⟨[(3,.ptr 0 0),(7,.d (.int .i64 (strs m.ns).length)),(9,.sl 3 (prs lost).length),(12,.d (.slice 1 (ints (m.floods lost f)))),(13,.d (.int .i64 (known (m.floods lost f)))),(15,.ptr 6 0),(17,.d (.int .i64 al)),(22,.d (.int .i64 N)),(98,.d (.int .i64 (strs m.ns).length)),(99,.d (.int .i64 r))],[.cbox [.slice 1 (strs m.ns),.slice 3 (lks m.ls)],.none,.none,.row 31 2 (prs lost) false,.none,.none,.box [.d (.int .i64 s.co),.d (.int .i64 s.nu),.d (.slice 3 (ens s.es))],.none,.none,.none,.none,.none,.none,.none,.none]⟩) :
  vc Tryz.prog n seg3w ⟨[(3,.ptr 0 0),(7,.d (.int .i64 (strs m.ns).length)),(9,.sl 3 (prs lost).length),(12,.d (.slice 1 (ints (m.floods lost f)))),(13,.d (.int .i64 (known (m.floods lost f)))),(15,.ptr 6 0),(17,.d (.int .i64 al)),(22,.d (.int .i64 N)),(23,.d (.slice 1 (ints w))),(24,.d (.slice 4 (L.stns rest))),(98,.d (.int .i64 (strs m.ns).length)),(99,.d (.int .i64 r)),(198,.d (.int .i64 N)),(199,.d (.int .i64 0))],[.cbox [.slice 1 (strs m.ns),.slice 3 (lks m.ls)],.none,.none,.row 31 2 (prs lost) false,.none,.none,.box [.d (.int .i64 s.co),.d (.int .i64 s.nu),.d (.slice 3 (ens s.es))],.none,.none,.none,.none,.none,.none,.none,.none]⟩ Q:=by
 unfold seg3w
 have hsl:(L.stns rest).length=rest.length:=L.stns_len rest
 rotate_left
 refine loop_u (fun k:Nat=>[(199,.d (.int .i64 k))]) (fun _=>[]) (fun k=>k≤rest.length) (fun k=>rest.length - k) 0 rfl (Nat.zero_le _) ?_
 intro k hk
 have hk:k≤rest.length:=hk
 dsimp only
 by_cases hkn:k < rest.length
 ·refine Exists.elim (get_lt rest hkn) fun x hx=>?_
  have hxi:(L.stns rest)[((k:Int)).toNat]?=some (.agg [.str x.nm,.int .i64 x.pri,.int .i64 x.fr,.int .i64 x.wt]):=by
   show (L.stns rest)[k]?=_
   unfold L.stns; rw [List.getElem?_map,hx]; rfl
  have hx0:=hr x (List.mem_of_getElem? hx)
  have c14_:CallDet Tryz.prog 14 [.d (.slice 1 (ints w)),.d (.int .i64 k)] [.bool true]:=by
   have h2:=c50 w k (by omega)
   rw [List.contains_iff_mem.2 (hw k hkn)] at h2; exact h2
  refine sd ?_
  refine b_lt (fun t1=>?_) (fun t1=>?_)
  refine ca c14_ ?_
  refine ix_at hxi ?_ ?_
  (show (0:Int)≤(↑k:Int); omega)
  refine sd ?_
  refine b_ne (fun t2=>?_) (fun t2=>?_)
  (exfalso; omega)
  refine ar_add ?_ ?_
  refine an ?_ ?_
  (show (-9223372036854775808:Int)≤(↑k:Int)+(1:Int); omega)
  (show (↑k:Int)+(1:Int)≤(9223372036854775807:Int); omega)
  rotate_left
  (exfalso; omega)
  all_goals exact ⟨k+1,⟨by show k+1≤rest.length; omega,by show rest.length - (k+1) < rest.length - k; omega⟩,rfl⟩
 ·refine sd ?_
  refine b_lt (fun t1=>?_) (fun t1=>?_)
  (exfalso; omega)
  rotate_left
  all_goals exact h
def sentB (m:Ms) (lost:List (Int × Int)) (f:Int) (r:Nat):Nat:=cnt m.ns.length (fun i=>decide (0≤at0 (m.floods lost f) i)&&decide (at0 (m.floods lost f) i < (r:Int)))
theorem sentB_zero (m:Ms) (lost:List (Int × Int)) (f:Int):sentB m lost f 0=0:=by
 unfold sentB
 have:=@cnt_le m.ns.length (fun i=>decide (0≤at0 (m.floods lost f) i)&&decide (at0 (m.floods lost f) i < ((0:Nat):Int))) (fun _=>false) (fun i _ h=>by
  simp only [Bool.and_eq_true,decide_eq_true_eq] at h; omega)
 rw [cnt_none] at this; omega
theorem sentB_next (m:Ms) (lost:List (Int × Int)) (f:Int) (r:Nat):sentB m lost f r+(stnN m.ns (m.floods lost f) (r:Int) m.ns.length).length=sentB m lost f (r+1):=by
 rw [stnN_len]; exact cnt_rounds _ _ r
theorem sentB_end {m:Ms} {lost:List (Int × Int)} {f:Int} (h0:0≤f) (h1:f < (m.ns.length:Int)):sentB m lost f m.ns.length=known (m.floods lost f):=by
 rw [known_floods]
 unfold sentB
 have a:=@cnt_le m.ns.length (fun i=>decide (0≤at0 (m.floods lost f) i)&&decide (at0 (m.floods lost f) i < (m.ns.length:Int))) (fun i=>decide (0≤at0 (m.floods lost f) i)) (fun i _ h=>by
  rw [Bool.and_eq_true] at h; exact h.1)
 have b:=@cnt_le m.ns.length (fun i=>decide (0≤at0 (m.floods lost f) i)) (fun i=>decide (0≤at0 (m.floods lost f) i)&&decide (at0 (m.floods lost f) i < (m.ns.length:Int))) (fun i hi h=>by
  rw [Bool.and_eq_true]
  refine ⟨h,decide_eq_true ?_⟩
  have h2:=flood_rng (m:=m) (f:=f) (lost:=lost) i
  have h3:=lvl_top (n:=m.ns.length) (g:=gL m lost) (f:=f.toNat) (by omega) i hi
  rw [← flood_at hi] at h3
  omega)
 omega
theorem sentB_max (m:Ms) (lost:List (Int × Int)) (f:Int) (r:Nat):sentB m lost f r≤m.ns.length:=by
 unfold sentB
 have:=@cnt_le m.ns.length (fun i=>decide (0≤at0 (m.floods lost f) i)&&decide (at0 (m.floods lost f) i < (r:Int))) (fun _=>true) (fun _ _ _=>rfl)
 rw [cnt_all] at this; exact this
theorem v3r {n : Nat} {m : Ms} {f : Int} {lost : List (Int × Int)} {Q : AExit → St → Prop} (hc : m.chk = 0) (hn8 : m.ns.length ≤ 7) (h0 : 0 ≤ f) (h1 : f < (m.ns.length : Int)) (hll : lost.length ≤ 6) (hpe : pairsE m lost = 0)
  (h:Q .normal ⟨[(13,.d (.int .i64 (known (m.floods lost f)))),(17,.d (.int .i64 (known (m.floods lost f))))],[.none,.none,.none,.none,.none,.none,.none,.none,.none,.none,.none,.none,.none,.none,.none]⟩) :
  vc Tryz.prog n seg3r ⟨[(3,.ptr 0 0),(7,.d (.int .i64 (strs m.ns).length)),(9,.sl 3 (prs lost).length),(12,.d (.slice 1 (ints (m.floods lost f)))),(13,.d (.int .i64 (known (m.floods lost f)))),(15,.ptr 6 0),(17,.d (.int .i64 0)),(98,.d (.int .i64 (strs m.ns).length)),(99,.d (.int .i64 0))],[.cbox [.slice 1 (strs m.ns),.slice 3 (lks m.ls)],.none,.none,.row 31 2 (prs lost) false,.none,.none,.box [.d (.int .i64 (m.begun f).co),.d (.int .i64 (m.begun f).nu),.d (.slice 3 (ens (m.begun f).es))],.none,.none,.none,.none,.none,.none,.none,.none]⟩ Q:=by
 unfold seg3r
 have hf:=chk_fine hc
 have h128:=hf.l128
 have hsl:=strs_len m.ns
 have hpl:=prs_len lost
 have hfl:=floods_len m lost f
 rotate_left
 refine loop_u (fun r:Nat=>[(17,.d (.int .i64 (sentB m lost f r))),(99,.d (.int .i64 r))]) (fun r=>[(6,.box [.d (.int .i64 ((m.begun f).rl m lost r).co),.d (.int .i64 ((m.begun f).rl m lost r).nu),.d (.slice 3 (ens ((m.begun f).rl m lost r).es))])]) (fun r=>r≤m.ns.length) (fun r=>m.ns.length - r) 0 (by rw [sentB_zero]; rfl) (Nat.zero_le _) ?_
 intro r hr
 have hr:r≤m.ns.length:=hr
 dsimp only
 have g:=(Good.begun hc h0 h1).rl lost r
 have hgl:=g.len
 have hel:=ens_len ((m.begun f).rl m lost r).es
 have hrl:=round_len m ((m.begun f).rl m lost r) lost
 have hsm:=sentB_max m lost f r
 have hsn:=sentB_next m lost f r
 have hsm2:=sentB_max m lost f (r+1)
 by_cases hrn:r < m.ns.length
 ·have hw:∀ k:Nat,k < m.ns.length→decide (0 < (((m.begun f).rl m lost r).at k).nu)=(decide (0≤at0 (m.floods lost f) k)&&decide (at0 (m.floods lost f) k≤(r:Int))):=fun k hk=>wave_nu hc h0 h1 lost (by omega) (by omega) hk
  have c8_:=c18 m (by omega) (by omega)
  have c11_:=c59 ((m.begun f).rl m lost r) (by omega)
  have c16_:=c33 ((m.begun f).rl m lost r) (by omega)
  have c10_:CallDet Tryz.prog 10 [.d m.d,.d ((m.begun f).rl m lost r).d] [.int .i64 0]:=by
   have h2:=c34 m ((m.begun f).rl m lost r) (by omega) (by omega) (by omega)
   rw [of_good g] at h2; exact h2
  have c15_:CallDet Tryz.prog 15 [.d m.d,.d ((m.begun f).rl m lost r).d,.d (.slice 2 (prs lost))] [(((m.begun f).rl m lost r).round m lost).d,.int .i64 0]:=by
   have h2:=c53 m ((m.begun f).rl m lost r) lost (by omega) (by omega) (by omega) (by omega)
   have e:firstOf [m.chkS ((m.begun f).rl m lost r),pairsE m lost]=0:=by rw [of_good g,hpe]; rfl
   unfold Sts.roundP at h2
   rw [e] at h2; exact h2
  have fin : ∀ X : Int, X = (sentB m lost f (r + 1) : Int) → ∃ a' : Nat, (a' ≤ m.ns.length ∧ m.ns.length - a' < m.ns.length - r) ∧ (⟨[(3, .ptr 0 0), (7, .d (.int .i64 (strs m.ns).length)), (9, .sl 3 (prs lost).length), (12, .d (.slice 1 (ints (m.floods lost f)))), (13, .d (.int .i64 (known (m.floods lost f)))), (15, .ptr 6 0), (17, .d (.int .i64 X)), (98, .d (.int .i64 (strs m.ns).length)), (99, .d (.int .i64 ((r : Int) + 1)))], [.cbox [.slice 1 (strs m.ns), .slice 3 (lks m.ls)], .none, .none, .row 31 2 (prs lost) false, .none, .none, .box [.d (.int .i64 (((m.begun f).rl m lost r).round m lost).co), .d (.int .i64 (((m.begun f).rl m lost r).round m lost).nu), .d (.slice 3 (ens (((m.begun f).rl m lost r).round m lost).es))], .none, .none, .none, .none, .none, .none, .none, .none]⟩ : St) =
    ⟨[(3,.ptr 0 0),(7,.d (.int .i64 (strs m.ns).length)),(9,.sl 3 (prs lost).length),(12,.d (.slice 1 (ints (m.floods lost f)))),(13,.d (.int .i64 (known (m.floods lost f)))),(15,.ptr 6 0),(17,.d (.int .i64 (sentB m lost f a'))),(98,.d (.int .i64 (strs m.ns).length)),(99,.d (.int .i64 (a':Nat)))],[.cbox [.slice 1 (strs m.ns),.slice 3 (lks m.ls)],.none,.none,.row 31 2 (prs lost) false,.none,.none,.box [.d (.int .i64 ((m.begun f).rl m lost a').co),.d (.int .i64 ((m.begun f).rl m lost a').nu),.d (.slice 3 (ens ((m.begun f).rl m lost a').es))],.none,.none,.none,.none,.none,.none,.none,.none]⟩:=fun X hX=>⟨r+1,⟨by omega,by omega⟩,by rw [hX]; rfl⟩
  generalize hs:(m.begun f).rl m lost r=s at *
  refine sd ?_
  refine b_lt (fun t1=>?_) (fun t1=>?_)
  refine sd ?_
  refine b_ne (fun t2=>?_) (fun t2=>?_)
  (exfalso; omega)
  refine ca c11_ ?_
  refine ca c10_ ?_
  refine sd ?_
  rotate_left
  (exfalso; omega)
  refine v3s hf (by omega) g ⟨by omega,by omega⟩ hw ?_
  have hones:=stnN_ones (m:=m) (m.floods lost f) (r:Int) (Nat.le_refl m.ns.length)
  have hchk:=stnN_chk hf (m.floods lost f) (r:Int) (Nat.le_refl m.ns.length)
  have hmem:=@stnN_mem m.ns (m.floods lost f) (r:Int) m.ns.length (Nat.le_refl _)
  generalize stnN m.ns (m.floods lost f) (r:Int) m.ns.length=S at *
  have hsl2:=L.stns_len S
  by_cases hS:S.length=0
  ·refine sd ?_
   refine sd ?_
   refine b_lt (fun t3=>?_) (fun t3=>?_)
   (exfalso; omega)
   refine ca c8_ ?_
   refine ca c11_ ?_
   refine ca c16_ ?_
   refine sd ?_
   refine sd ?_
   refine sd ?_
   refine an ?_ ?_
   refine an ?_ ?_
   exact rfl
   refine an ?_ ?_
   exact rfl
   refine an ?_ ?_
   exact rfl
   refine an ?_ ?_
   (show ((0:Nat)+List.length (prs lost)) * (16:Nat)≤(2:Nat) ^ (47:Nat); omega)
   (show (0:Nat)+List.length (prs lost)≤(2:Nat) ^ (47:Nat); omega)
   refine sd ?_
   refine ca c15_ ?_
   refine sd ?_
   refine ar_add ?_ ?_
   refine an ?_ ?_
   (show (-9223372036854775808:Int)≤(↑r:Int)+(1:Int); omega)
   (show (↑r:Int)+(1:Int)≤(9223372036854775807:Int); omega)
   rotate_left
   all_goals exact fin _ (by omega)
  ·have hall:=L.srv_all S.length S (fun x hx=>.inr (hmem x hx).1) hones
   have e2:L.srvE S (S.length:Int)=0:=by
    unfold L.srvE L.chkStns
    rw [decide_eq_false (by omega),hchk]
    unfold L.within3
    rw [decide_eq_false (by omega),decide_eq_false (by omega)]; rfl
   have c12_:CallDet Tryz.prog 12 [.d (.slice 4 (L.stns S)),.d (.int .i64 (L.stns S).length)] [.slice 1 (ints (L.srvGo S.length S).1),.slice 4 (L.stns (L.srvGo S.length S).2),.int .i64 0]:=by
    have h2:=L.c56 S (S.length:Int)
    unfold L.srvP at h2
    rw [e2] at h2
    rw [hsl2]; exact h2
   have e3:L.bndE (S.length:Int)=0:=by
    unfold L.bndE L.within3
    rw [decide_eq_false (by omega),decide_eq_false (by omega)]; rfl
   have c13_:CallDet Tryz.prog 13 [.d (.int .i64 (L.stns S).length)] [.int .i64 ((S.length:Int)+3),.int .i64 0]:=by
    have h2:=L.c57 (S.length:Int)
    unfold L.bndP at h2
    have e4:L.within3 (S.length:Int) 1 8=0:=e3
    rw [e3,e4] at h2
    rw [hsl2]; exact h2
   have hl1:=ints_len (L.srvGo S.length S).1
   have hl2:=L.stns_len (L.srvGo S.length S).2
   refine sd ?_
   refine sd ?_
   refine b_lt (fun t3=>?_) (fun t3=>?_)
   refine sd ?_
   refine sd ?_
   refine sd ?_
   refine an ?_ ?_
   refine an ?_ ?_
   exact rfl
   refine an ?_ ?_
   exact rfl
   refine an ?_ ?_
   exact rfl
   refine an ?_ ?_
   (show ((0:Nat)+List.length (L.stns S)) * (40:Nat)≤(2:Nat) ^ (47:Nat); omega)
   (show (0:Nat)+List.length (L.stns S)≤(2:Nat) ^ (47:Nat); omega)
   refine sd ?_
   refine ca c12_ ?_
   refine ca c13_ ?_
   refine sd ?_
   refine sd ?_
   refine sd ?_
   refine b_ne (fun t4=>?_) (fun t4=>?_)
   (exfalso; omega)
   refine sd ?_
   refine b_lt (fun t5=>?_) (fun t5=>?_)
   (exfalso; omega)
   refine sd ?_
   refine b_ne (fun t6=>?_) (fun t6=>?_)
   (exfalso; omega)
   rotate_left
   (exfalso; omega)
   refine v3w (by omega) (by omega) (by omega) (fun i hi=>?_) hall.2.2.1 ?_
   ·have hi2:i < S.length:=by omega
    exact hall.2.2.2 i _ (List.getElem?_eq_getElem hi2) (hmem _ (List.getElem_mem hi2)).1
   refine ar_add ?_ ?_
   refine an ?_ ?_
   (show (-9223372036854775808:Int)≤(↑(sentB m lost f r):Int)+(↑(List.length (L.stns S)):Int); omega)
   (show (↑(sentB m lost f r):Int)+(↑(List.length (L.stns S)):Int)≤(9223372036854775807:Int); omega)
   refine ca c8_ ?_
   refine ca c11_ ?_
   refine ca c16_ ?_
   refine sd ?_
   refine sd ?_
   refine sd ?_
   refine an ?_ ?_
   refine an ?_ ?_
   exact rfl
   refine an ?_ ?_
   exact rfl
   refine an ?_ ?_
   exact rfl
   refine an ?_ ?_
   (show ((0:Nat)+List.length (prs lost)) * (16:Nat)≤(2:Nat) ^ (47:Nat); omega)
   (show (0:Nat)+List.length (prs lost)≤(2:Nat) ^ (47:Nat); omega)
   refine sd ?_
   refine ca c15_ ?_
   refine sd ?_
   refine ar_add ?_ ?_
   refine an ?_ ?_
   (show (-9223372036854775808:Int)≤(↑r:Int)+(1:Int); omega)
   (show (↑r:Int)+(1:Int)≤(9223372036854775807:Int); omega)
   rotate_left
   all_goals exact fin _ (by omega)
 ·have er:r=m.ns.length:=by omega
  have e:=sentB_end (lost:=lost) h0 h1
  rw [er,e]
  refine sd ?_
  refine b_lt (fun t1=>?_) (fun t1=>?_)
  (exfalso; omega)
  rotate_left
  all_goals exact h
def jr3:AFun:=⟨240,15,[.tmp 6],
 (.seq
 (.reg [0] [⟨some 3,.cbx 0 2 (.tmp 0),none⟩,
  ⟨some 6,.mov (.cst (.d (.bool false))),none⟩])
 (.seq
  (.seq
  (.reg [] [⟨some 31,.ld true 2 (.tmp 3),none⟩,
   ⟨some 32,.call 5 [(.tmp 31)],none⟩,
   ⟨some 33,.not (.tmp 32),none⟩,
   ⟨some 34,.mov (.tmp 33),none⟩,
   ⟨some 35,.mov (.tmp 2),some (34,false)⟩,
   ⟨some 36,.len (.tmp 35),some (34,false)⟩,
   ⟨some 37,.cmp .gtr (.tmp 36) (.cst (.d (.int .i64 6))),some (34,false)⟩,
   ⟨some 38,.pick (.tmp 34) (.cst (.d (.bool true))) (.tmp 37),none⟩])
  (.cond (.tmp 38)
   (.seq
   (.reg [] [⟨some 39,.call 6 [],none⟩,
    ⟨some 6,.mov (.tmp 39),none⟩])
   .ret)
   .skip))
  (.seq
  (.reg [] [⟨some 40,.fad 0 (.tmp 3),none⟩,
   ⟨some 41,.ld false 1 (.tmp 40),none⟩,
   ⟨some 42,.len (.tmp 41),none⟩,
   ⟨some 7,.mov (.tmp 42),none⟩])
  (.seq
   (.reg [] [⟨some 43,.mov (.tmp 1),none⟩,
    ⟨some 44,.conv .i64 (.tmp 43),none⟩,
    ⟨some 45,.mov (.tmp 7),none⟩,
    ⟨some 46,.arith .rem .i64 (.tmp 44) (.tmp 45),none⟩,
    ⟨some 8,.mov (.tmp 46),none⟩])
   (.seq
   (.reg [] [⟨some 9,.mov (.cst (.nils 2)),none⟩])
   (.seq
    (.seq
    (.reg [] [⟨some 47,.mov (.tmp 2),none⟩,
     ⟨some 48,.len (.tmp 47),none⟩,
     ⟨some 49,.mov (.cst (.d (.int .i64 0))),none⟩])
    (.post [3,7,8,9] [0,1,2,3]
     (.block 0
     (.asrow 3 31 2 9
      (.keep [3,7,8,9,47,48,49] [0]
      (.loop
       (.post [3,7,8,9,47,48,49] [1,2,3]
       (.seq
        (.reg [] [⟨some 50,.cmp .lss (.tmp 49) (.tmp 48),none⟩])
        (.seq
        (.cond (.tmp 50)
         .skip
         (.exit 0))
        (.seq
         (.block 1
         (.seq
          (.reg [1] [⟨some 51,.ixa 2 (.tmp 47) (.tmp 49),none⟩,
           ⟨some 52,.ld true 2 (.tmp 51),none⟩,
           ⟨some 11,.alloc 1 [(.d (.int .u8 0)),(.d (.int .u8 0))],none⟩,
           ⟨none,.st 2 (.tmp 11) (.tmp 52),none⟩])
          (.regd [2,3] [⟨some 53,.mov (.tmp 9),none⟩,
           ⟨some 54,.ixp 2 1 (.tmp 11) (.cst (.d (.int .i64 0))),none⟩,
           ⟨some 55,.ld false 1 (.tmp 54),none⟩,
           ⟨some 56,.conv .i64 (.tmp 55),none⟩,
           ⟨some 57,.mov (.tmp 7),none⟩,
           ⟨some 58,.arith .rem .i64 (.tmp 56) (.tmp 57),none⟩,
           ⟨some 59,.ixp 2 1 (.tmp 11) (.cst (.d (.int .i64 1))),none⟩,
           ⟨some 60,.ld false 1 (.tmp 59),none⟩,
           ⟨some 61,.conv .i64 (.tmp 60),none⟩,
           ⟨some 62,.mov (.tmp 7),none⟩,
           ⟨some 63,.arith .rem .i64 (.tmp 61) (.tmp 62),none⟩,
           ⟨some 64,.build [(.d (.int .i64 0)),(.d (.int .i64 0))] [(0,1,(.tmp 58)),(1,1,(.tmp 63))],none⟩,
           ⟨some 65,.bsl 2 31 2 1 [(.agg [(.int .i64 0),(.int .i64 0)])] [(0,(.tmp 64))],none⟩,
           ⟨some 66,.app 3 31 2 16 (.tmp 53) (.tmp 65),none⟩,
           ⟨some 9,.mov (.tmp 66),none⟩] [(0,1),(0,2),(0,3),(0,4),(1,4),(2,4),(3,4),(0,5),(0,6),(1,6),(2,6),(3,6),(4,6),(5,6),(0,7),(1,7),(2,7),(3,7),(4,7),(5,7),(0,8),(1,8),(2,8),(3,8),(4,8),(5,8),(0,9),(1,9),(2,9),(3,9),(4,9),(5,9),(6,9),(7,9),(8,9),(0,10),(1,10),(2,10),(3,10),(4,10),(5,10),(0,11),(0,12)])))
         (.reg [] [⟨some 67,.arith .add .i64 (.tmp 49) (.cst (.d (.int .i64 1))),none⟩,
          ⟨some 49,.mov (.tmp 67),none⟩])))))))))))
    (.seq
    (.reg [4,5] [⟨some 69,.ld true 2 (.tmp 3),none⟩,
     ⟨some 70,.call 8 [(.tmp 69)],none⟩,
     ⟨some 71,.mov (.tmp 8),none⟩,
     ⟨some 72,.bsl 4 31 2 0 [] [],none⟩,
     ⟨some 73,.mov (.tmp 9),none⟩,
     ⟨some 74,.app 5 31 2 16 (.tmp 72) (.tmp 73),none⟩,
     ⟨some 75,.call 7 [(.tmp 70),(.tmp 71),(.tmp 74)],none⟩,
     ⟨some 68,.mov (.tmp 75),none⟩,
     ⟨some 76,.ext 0 (.tmp 68),none⟩,
     ⟨some 77,.ext 1 (.tmp 68),none⟩,
     ⟨some 78,.ext 2 (.tmp 68),none⟩,
     ⟨some 12,.mov (.tmp 76),none⟩,
     ⟨some 13,.mov (.tmp 77),none⟩,
     ⟨some 14,.mov (.tmp 78),none⟩])
    (.seq
     (.reg [6] [⟨some 80,.ld true 2 (.tmp 3),none⟩,
      ⟨some 81,.call 8 [(.tmp 80)],none⟩,
      ⟨some 82,.mov (.tmp 8),none⟩,
      ⟨some 83,.call 9 [(.tmp 81),(.tmp 82)],none⟩,
      ⟨some 79,.mov (.tmp 83),none⟩,
      ⟨some 84,.ext 0 (.tmp 79),none⟩,
      ⟨some 85,.ext 1 (.tmp 79),none⟩,
      ⟨some 15,.alloc 6 [(.d (.int .i64 0)),(.d (.int .i64 0)),(.nils 3)],none⟩,
      ⟨none,.st 3 (.tmp 15) (.tmp 84),none⟩,
      ⟨some 16,.mov (.tmp 85),none⟩])
     (.seq
     (.seq
      (.reg [] [⟨some 86,.mov (.tmp 14),none⟩,
       ⟨some 87,.cmp .neq (.tmp 86) (.cst (.d (.int .i64 0))),none⟩,
       ⟨some 88,.mov (.tmp 87),none⟩,
       ⟨some 89,.mov (.tmp 16),some (88,false)⟩,
       ⟨some 90,.cmp .neq (.tmp 89) (.cst (.d (.int .i64 0))),some (88,false)⟩,
       ⟨some 91,.pick (.tmp 88) (.cst (.d (.bool true))) (.tmp 90),none⟩,
       ⟨some 92,.mov (.tmp 91),none⟩,
       ⟨some 93,.mov (.tmp 12),some (92,false)⟩,
       ⟨some 94,.len (.tmp 93),some (92,false)⟩,
       ⟨some 95,.mov (.tmp 7),some (92,false)⟩,
       ⟨some 96,.cmp .neq (.tmp 94) (.tmp 95),some (92,false)⟩,
       ⟨some 97,.pick (.tmp 92) (.cst (.d (.bool true))) (.tmp 96),none⟩])
      (.cond (.tmp 97)
      (.seq
       (.reg [] [⟨some 6,.mov (.cst (.d (.bool false))),none⟩])
       .ret)
      .skip))
     (.seq
      (.reg [] [⟨some 17,.mov (.cst (.d (.int .i64 0))),none⟩])
      (.seq
      (.seq
       (.reg [] [⟨some 98,.mov (.tmp 7),none⟩,
        ⟨some 99,.mov (.cst (.d (.int .i64 0))),none⟩])
       (.keep [3,7,9,12,13,15,17,98,99] [0,1,2,3,4,5,6] seg3r))
      (.seq
       (.reg [] [⟨some 234,.mov (.tmp 17),none⟩,
        ⟨some 235,.mov (.tmp 13),none⟩,
        ⟨some 236,.cmp .eql (.tmp 234) (.tmp 235),none⟩,
        ⟨some 237,.mov (.tmp 236),none⟩,
        ⟨some 238,.call 6 [],some (237,true)⟩,
        ⟨some 239,.pick (.tmp 237) (.tmp 238) (.cst (.d (.bool false))),none⟩,
        ⟨some 6,.mov (.tmp 239),none⟩])
       .ret))))))))))))⟩
theorem k3 (m : Ms) (q : Int) (lo : List (Int × Int)) (hm : m.ns.length ≤ 1048576) (hl : m.ls.length ≤ 1048576) (hlo : lo.length ≤ 1048576) (hq : 0 ≤ q ∧ q ≤ 255) (hlp : ∀ p ∈ lo, (0 ≤ p.1 ∧ p.1 ≤ 255) ∧ (0 ≤ p.2 ∧ p.2 ≤ 255)) :
  CallDet Tryz.prog 3 [.d m.d,.d (.int .u8 q),.d (.slice 2 (u8ps lo))] [.bool true]:=by
 have c6_:=k6
 have hlen:=u8ps_len lo
 have hsl:=strs_len m.ns
 have h5:=k5 m hm hl
 refine call_of_vc (x:=jr3) (by kernel_rfl) rfl ?_
 by_cases hfw:fewT m=true
 ·have c5_:CallDet Tryz.prog 5 [.d m.d] [.bool true]:=by rw [hfw] at h5; exact h5
  have hf4:(1≤(m.ns.length:Int)∧(m.ns.length:Int)≤7)∧(m.ls.length:Int)≤14∧m.chk=0:=by
   unfold fewT at hfw
   simp only [Bool.and_eq_true,decide_eq_true_eq,beq_iff_eq] at hfw
   exact ⟨⟨hfw.1,hfw.2.1⟩,hfw.2.2.1,hfw.2.2.2⟩
  have hn1:=hf4.1.1
  have hn8:=hf4.1.2
  have hchk:=hf4.2.2
  by_cases h8:((u8ps lo).length:Int)≤6
  ·have hn0:((strs m.ns).length:Int)≠0:=by omega
   have hpos:0 < ((strs m.ns).length:Int):=by omega
   have w0:0≤IntKind.i64.wrap q:=by rw [IntKind.wrap_i64]; omega
   refine ca c5_ ?_
   refine sd ?_
   refine b_lt (fun t1=>?_) (fun t1=>?_)
   (exfalso; omega)
   refine ca rfl ?_
   refine ar_rem ?_ ?_
   refine an ?_ ?_
   assumption
   assumption
   rotate_left
   refine loop_u (fun k:Nat=>[(9,.sl 3 (prs ((lo.take k).map (redp ((strs m.ns).length:Int)))).length),(49,.d (.int .i64 k))]) (fun k=>[(3,.row 31 2 (prs ((lo.take k).map (redp ((strs m.ns).length:Int)))) false)]) (fun k=>k≤lo.length) (fun k=>lo.length - k) 0 rfl (Nat.zero_le _) ?_
   intro k hk
   have hk:k≤lo.length:=hk
   have hlt:(prs ((lo.take k).map (redp ((strs m.ns).length:Int)))).length=k:=by rw [prs_len,List.length_map,List.length_take]; omega
   dsimp only
   by_cases hkl:k < lo.length
   ·refine Exists.elim (get_lt lo hkl) fun p hp=>?_
    have hx:=u8ps_at hp
    have hpr:=hlp p (List.mem_of_getElem? hp)
    have w1:IntKind.i64.wrap p.1=p.1:=by rw [IntKind.wrap_i64]; omega
    have w2:IntKind.i64.wrap p.2=p.2:=by rw [IntKind.wrap_i64]; omega
    have e:prs ((lo.take (k+1)).map (redp ((strs m.ns).length:Int)))=prs ((lo.take k).map (redp ((strs m.ns).length:Int)))++[.agg [.int .i64 (IntKind.i64.wrap p.1 % ((strs m.ns).length:Int)),.int .i64 (IntKind.i64.wrap p.2 % ((strs m.ns).length:Int))]]:=by
     rw [take_map_succ _ hp]; unfold prs; rw [List.map_append]; rfl
    refine sd ?_
    refine b_lt (fun t2=>?_) (fun t2=>?_)
    refine ix_at hx ?_ ?_
    (show (0:Int)≤(↑k:Int); omega)
    refine an ?_ ?_
    refine an ?_ ?_
    (show (0:Int)≤(0:Int); omega)
    (show (0:Int) < (↑(2:Nat):Int); omega)
    refine ca rfl ?_
    refine ar_rem ?_ ?_
    refine an ?_ ?_
    (show (0:Int)≤IntKind.wrap IntKind.i64 (Prod.fst p); omega)
    assumption
    refine an ?_ ?_
    refine an ?_ ?_
    (show (0:Int)≤(1:Int); omega)
    (show (1:Int) < (↑(2:Nat):Int); omega)
    refine ca rfl ?_
    refine ar_rem ?_ ?_
    refine an ?_ ?_
    (show (0:Int)≤IntKind.wrap IntKind.i64 (Prod.snd p); omega)
    assumption
    refine sd ?_
    refine sd ?_
    refine sd ?_
    refine an ?_ ?_
    refine an ?_ ?_
    exact rfl
    refine an ?_ ?_
    exact rfl
    refine an ?_ ?_
    exact rfl
    refine an ?_ ?_
    (show (List.length (prs (List.map (redp (↑(List.length (strs (Ms.ns m))):Int)) (List.take k lo)))+(1:Nat)) * (16:Nat)≤(2:Nat) ^ (47:Nat); omega)
    (show List.length (prs (List.map (redp (↑(List.length (strs (Ms.ns m))):Int)) (List.take k lo)))+(1:Nat)≤(2:Nat) ^ (47:Nat); omega)
    refine ar_add ?_ ?_
    refine an ?_ ?_
    (show (-9223372036854775808:Int)≤(↑k:Int)+(1:Int); omega)
    (show (↑k:Int)+(1:Int)≤(9223372036854775807:Int); omega)
    rotate_left
    (exfalso; omega)
    refine ⟨k+1,⟨by show k+1≤lo.length; omega,by show lo.length - (k+1) < lo.length - k; omega⟩,?_⟩
    rw [e]; rfl
   ·have ek:lo.take k=lo:=List.take_of_length_le (by omega)
    rw [ek]
    generalize hlq:lo.map (redp ((strs m.ns).length:Int))=lost
    have hlql:lost.length=lo.length:=by rw [← hlq]; exact List.length_map _
    have hpl:=prs_len lost
    have hpe:pairsE m lost=0:=by
     unfold pairsE
     rw [decide_eq_false (by omega)]
     show firstOf (lost.map (pairE m))=0
     refine first_all _ (fun x hx=>?_)
     obtain ⟨p,hp,rfl⟩:=List.mem_map.1 hx
     rw [← hlq] at hp
     obtain ⟨z,hz,rfl⟩:=List.mem_map.1 hp
     exact pair_red hpos (by omega) z
    have f0:0≤IntKind.i64.wrap q % ((strs m.ns).length:Int):=Int.emod_nonneg _ hn0
    have f1:=Int.emod_lt_of_pos (IntKind.i64.wrap q) hpos
    have hfE:m.nodeE (IntKind.i64.wrap q % ((strs m.ns).length:Int))=0:=by
     unfold Ms.nodeE outN
     rw [decide_eq_false (by omega),decide_eq_false (by omega)]; rfl
    have hD:nodeD m (IntKind.i64.wrap q % ((strs m.ns).length:Int))=0:=nodeD_good2 hchk hfE
    have c7_:CallDet Tryz.prog 7 [.d m.d,.d (.int .i64 (IntKind.i64.wrap q % ((strs m.ns).length:Int))),.d (.slice 2 (prs lost))] [.slice 1 (ints (m.floods lost (IntKind.i64.wrap q % ((strs m.ns).length:Int)))),.int .i64 (known (m.floods lost (IntKind.i64.wrap q % ((strs m.ns).length:Int)))),.int .i64 0]:=by
     have h2:=c40 m (IntKind.i64.wrap q % ((strs m.ns).length:Int)) lost hm hl (by omega)
     have e:floodE m (IntKind.i64.wrap q % ((strs m.ns).length:Int)) lost=0:=by unfold floodE; rw [hchk,hfE,hpe]; rfl
     unfold Ms.floodsP Ms.floodsN at h2
     rw [e] at h2; exact h2
    have c9_:CallDet Tryz.prog 9 [.d m.d,.d (.int .i64 (IntKind.i64.wrap q % ((strs m.ns).length:Int)))] [(m.begun (IntKind.i64.wrap q % ((strs m.ns).length:Int))).d,.int .i64 0]:=by
     have h2:=c31 m (IntKind.i64.wrap q % ((strs m.ns).length:Int)) hm hl
     rw [hD] at h2; exact h2
    have hfl:=floods_len m lost (IntKind.i64.wrap q % ((strs m.ns).length:Int))
    have hil:=ints_len (m.floods lost (IntKind.i64.wrap q % ((strs m.ns).length:Int)))
    have c8_:=c18 m hm hl
    refine sd ?_
    refine b_lt (fun t2=>?_) (fun t2=>?_)
    (exfalso; omega)
    refine ca c8_ ?_
    refine sd ?_
    refine sd ?_
    refine sd ?_
    refine an ?_ ?_
    refine an ?_ ?_
    exact rfl
    refine an ?_ ?_
    exact rfl
    refine an ?_ ?_
    exact rfl
    refine an ?_ ?_
    (show ((0:Nat)+List.length (prs lost)) * (16:Nat)≤(2:Nat) ^ (47:Nat); omega)
    (show (0:Nat)+List.length (prs lost)≤(2:Nat) ^ (47:Nat); omega)
    refine sd ?_
    refine ca c7_ ?_
    refine ca c8_ ?_
    refine ca c9_ ?_
    refine sd ?_
    refine sd ?_
    refine sd ?_
    refine b_ne (fun t3=>?_) (fun t3=>?_)
    (exfalso; omega)
    rotate_left
    refine v3r hchk (by omega) f0 (by omega) (by omega) hpe ?_
    refine sd ?_
    refine b_eq (fun t4=>?_) (fun t4=>?_)
    refine ca c6_ ?_
    exact rfl
    (exfalso; omega)
  ·refine ca c5_ ?_
   refine sd ?_
   refine b_lt (fun t1=>?_) (fun t1=>?_)
   refine ca c6_ ?_
   exact rfl
   (exfalso; omega)
 ·have hff:fewT m=false:=by simpa using hfw
  have c5_:CallDet Tryz.prog 5 [.d m.d] [.bool false]:=by rw [hff] at h5; exact h5
  refine ca c5_ ?_
  refine sd ?_
  refine ca c6_ ?_
  exact rfl
end Vc
