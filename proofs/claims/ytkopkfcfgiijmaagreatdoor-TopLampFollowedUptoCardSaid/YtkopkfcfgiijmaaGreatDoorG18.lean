import Derived.Test.YtkopkfcfgiijmaaGreatDoorG16
import Derived.Test.YtkopkfcfgiijmaaGreatDoorG17
import Derived.Test.YtkopkfcfgiijmaaGreatDoorG08
import Derived.Test.YtkopkfcfgiijmaaGreatDoorG05
import Derived.Test.YtkopkfcfgiijmaaGreatDoorG04
import Derived.Test.YtkopkfcfgiijmaaGreatDoorRows
import Derived.Laws.RangeAny
set_option linter.unusedSectionVars false
set_option linter.unusedVariables false
set_option linter.unusedSimpArgs false
set_option maxRecDepth 10000
set_option maxHeartbeats 4000000
namespace Vc
open Go Go.Proofs
def ir128:AFun:=⟨15,7,[.cell 4 2 true],
 (.seq
 (.reg [0,1,2] [⟨some 2,.cbx 0 2 (.tmp 0),none⟩,
 ⟨some 3,.cbx 1 3 (.tmp 1),none⟩,
 ⟨some 4,.alloc 2 [(.nils 1),(.nils 3)],none⟩])
 (.seq
 (.regd [3,4] [⟨some 5,.fad 0 (.tmp 2),none⟩,
 ⟨some 6,.ld false 1 (.tmp 5),none⟩,
 ⟨some 7,.calln 6 9 1 61 [(.tmp 6)],none⟩,
 ⟨some 8,.fad 1 (.tmp 2),none⟩,
 ⟨some 9,.ld false 1 (.tmp 8),none⟩,
 ⟨some 10,.calln 5 106 3 63 [(.tmp 9)],none⟩,
 ⟨some 11,.ld true 3 (.tmp 3),none⟩,
 ⟨some 12,.bsl 3 106 3 1 [(.agg [(.int .i64 0),(.int .i64 0),(.int .i64 0)])] [(0,(.tmp 11))],none⟩,
 ⟨some 13,.app 4 106 3 24 (.tmp 10) (.tmp 12),none⟩,
 ⟨some 14,.build [(.nils 1),(.nils 3)] [(0,1,(.tmp 7)),(1,1,(.tmp 13))],none⟩,
 ⟨none,.st 2 (.tmp 4) (.tmp 14),none⟩] [(0,3),(1,3),(2,3),(0,4),(1,4),(2,4),(0,6),(1,6),(2,6),(3,6),(4,6),(5,6),(0,7),(1,7),(2,7),(3,7),(4,7),(5,7)])
 .ret))⟩
def ir62:AFun:=⟨56,9,[.cell 6 3 true,.tmp 7],
 (.seq
 (.reg [0,1,2] [⟨some 3,.cbx 0 2 (.tmp 0),none⟩,
 ⟨some 4,.cbx 1 3 (.tmp 1),none⟩,
 ⟨some 6,.alloc 2 [(.d (.int .i64 0)),(.d (.int .i64 0)),(.nils 3)],none⟩,
 ⟨some 7,.mov (.cst (.d (.int .i64 0))),none⟩])
 (.seq
 (.seq
 (.regd [3] [⟨some 10,.ld true 2 (.tmp 3),none⟩,
 ⟨some 11,.ld true 3 (.tmp 4),none⟩,
 ⟨some 12,.call 52 [(.tmp 10),(.tmp 11)],none⟩,
 ⟨some 13,.ld true 2 (.tmp 3),none⟩,
 ⟨some 14,.mov (.tmp 2),none⟩,
 ⟨some 15,.call 33 [(.tmp 13),(.tmp 14)],none⟩,
 ⟨some 16,.mov (.tmp 2),none⟩,
 ⟨some 17,.fad 0 (.tmp 4),none⟩,
 ⟨some 18,.ld false 1 (.tmp 17),none⟩,
 ⟨some 19,.cmp .eql (.tmp 16) (.tmp 18),none⟩,
 ⟨some 20,.call 58 [(.tmp 19),(.cst (.d (.int .i64 9)))],none⟩,
 ⟨some 21,.fad 1 (.tmp 4),none⟩,
 ⟨some 22,.ld false 1 (.tmp 21),none⟩,
 ⟨some 23,.cmp .eql (.tmp 22) (.cst (.d (.int .i64 1000000))),none⟩,
 ⟨some 24,.call 58 [(.tmp 23),(.cst (.d (.int .i64 20)))],none⟩,
 ⟨some 25,.bsl 3 33 1 4 [(.int .i64 0),(.int .i64 0),(.int .i64 0),(.int .i64 0)] [(0,(.tmp 12)),(1,(.tmp 15)),(2,(.tmp 20)),(3,(.tmp 24))],none⟩,
 ⟨some 26,.call 31 [(.tmp 25)],none⟩,
 ⟨some 8,.mov (.tmp 26),none⟩] [(0,1),(0,3),(1,3),(2,3),(0,4),(1,4),(2,4),(3,4),(0,6),(1,6),(2,6),(3,6),(4,6),(5,6),(0,7),(1,7),(2,7),(3,7),(4,7),(5,7),(6,7),(0,8),(1,8),(2,8),(3,8),(4,8),(5,8),(6,8),(0,9),(1,9),(2,9),(3,9),(4,9),(5,9),(0,11),(1,11),(2,11),(3,11),(4,11),(5,11),(6,11),(7,11),(8,11),(9,11),(10,11),(0,12),(1,12),(2,12),(3,12),(4,12),(5,12),(6,12),(7,12),(8,12),(9,12),(10,12),(0,13),(1,13),(2,13),(3,13),(4,13),(5,13),(6,13),(7,13),(8,13),(9,13),(10,13)])
 (.seq
 (.reg [] [⟨some 27,.mov (.tmp 8),none⟩,
 ⟨some 28,.cmp .neq (.tmp 27) (.cst (.d (.int .i64 0))),none⟩])
 (.cond (.tmp 28)
 (.seq
 (.reg [] [⟨some 29,.build [(.d (.int .i64 0)),(.d (.int .i64 0)),(.nils 3)] [],none⟩,
 ⟨some 30,.mov (.tmp 8),none⟩,
 ⟨none,.st 3 (.tmp 6) (.tmp 29),none⟩,
 ⟨some 7,.mov (.tmp 30),none⟩])
 .ret)
 .skip)))
 (.seq
 (.reg [4] [⟨some 31,.ld true 3 (.tmp 4),none⟩,
 ⟨some 32,.calli 59 [(.tmp 31)],none⟩,
 ⟨some 9,.alloc 4 [(.d (.int .i64 0)),(.d (.int .i64 0)),(.nils 3)],none⟩,
 ⟨none,.st 3 (.tmp 9) (.tmp 32),none⟩])
 (.seq
 (.regd [] [⟨some 33,.mov (.tmp 2),none⟩,
 ⟨some 34,.fad 1 (.tmp 4),none⟩,
 ⟨some 35,.ld false 1 (.tmp 34),none⟩,
 ⟨some 36,.arith .add .i64 (.tmp 35) (.cst (.d (.int .i64 1))),none⟩,
 ⟨some 37,.fad 0 (.tmp 9),none⟩,
 ⟨none,.st 1 (.tmp 37) (.tmp 33),none⟩,
 ⟨some 38,.fad 1 (.tmp 9),none⟩,
 ⟨none,.st 1 (.tmp 38) (.tmp 36),none⟩] [(0,1),(0,2),(0,3),(1,4),(2,4),(3,4),(1,5),(2,5),(3,5)])
 (.seq
 (.reg [] [⟨some 39,.fad 2 (.tmp 9),none⟩,
 ⟨some 40,.ld false 1 (.tmp 39),none⟩,
 ⟨some 41,.fad 0 (.tmp 4),none⟩,
 ⟨some 42,.ld false 1 (.tmp 41),none⟩,
 ⟨some 43,.fad 1 (.tmp 4),none⟩,
 ⟨some 44,.ld false 1 (.tmp 43),none⟩,
 ⟨some 45,.build [(.d (.int .i64 0)),(.d (.int .i64 0)),(.d (.int .i64 0))] [(0,1,(.tmp 44)),(1,1,(.cst (.d (.int .i64 0)))),(2,1,(.cst (.d (.int .i64 (-1)))))],none⟩,
 ⟨some 46,.ixa 3 (.tmp 40) (.tmp 42),none⟩,
 ⟨none,.st 3 (.tmp 46) (.tmp 45),none⟩])
 (.seq
 (.reg [] [⟨some 47,.fad 2 (.tmp 9),none⟩,
 ⟨some 48,.ld false 1 (.tmp 47),none⟩,
 ⟨some 49,.mov (.tmp 2),none⟩,
 ⟨some 50,.fad 1 (.tmp 9),none⟩,
 ⟨some 51,.ld false 1 (.tmp 50),none⟩,
 ⟨some 52,.mov (.tmp 2),none⟩,
 ⟨some 53,.build [(.d (.int .i64 0)),(.d (.int .i64 0)),(.d (.int .i64 0))] [(0,1,(.tmp 51)),(1,1,(.cst (.d (.int .i64 0)))),(2,1,(.tmp 52))],none⟩,
 ⟨some 54,.ixa 3 (.tmp 48) (.tmp 49),none⟩,
 ⟨none,.st 3 (.tmp 54) (.tmp 53),none⟩])
 (.seq
 (.reg [] [⟨some 55,.ld true 3 (.tmp 9),none⟩,
 ⟨none,.st 3 (.tmp 6) (.tmp 55),none⟩,
 ⟨some 7,.mov (.cst (.d (.int .i64 0))),none⟩])
 .ret)))))))⟩
def Sts.elec (s:Sts) (i:Int):Sts:=⟨i,s.nu+1,(s.es.set s.co.toNat ⟨s.nu,0,-1⟩).set i.toNat ⟨s.nu+1,0,i⟩⟩
def Ms.joined (m:Ms) (nm:List UInt8) (w c:Int):Ms:=⟨m.ns++[nm],m.ls++[⟨w,m.ns.length,c⟩]⟩
def Sts.joined (s:Sts):Sts:=⟨s.co,s.nu,s.es++[⟨0,0,-1⟩]⟩
end Vc
set_option maxRecDepth 10000
namespace Vc
open Go Go.Proofs
theorem scan_ok_of {α:Type} {f:List α→α→Int} {l:List α} (h:∀ (k:Nat) x,l[k]?=some x→f (l.take k) x=0):scanE f [] l=0 :=
 scan_all l [] (fun k x hx=>by rw [List.nil_append]; exact h k x hx)
theorem chk_of_fine {m:Ms} (h:m.fine):m.chk=0 :=
 chk_4 (by have:=h.n32; omega) (scan_ok_of h.names) (by have:=h.l128; omega) (scan_ok_of h.links)
theorem linkE_of {n:Int} {pre:List Lk} {l:Lk} (h1:outs n l=0) (h2:pre.any (fun o=>sameL o l)=false) (h3:1≤l.c∧l.c≤100):linkE n pre l=0:=by
 unfold linkE; rw [h1,h2]; exact within_in h3
theorem erase_take {α:Type} {l:List α} {j k:Nat} {x:α} (h:x∈(l.eraseIdx j).take k):x∈l.take (k+1):=by
 obtain ⟨q,hq,e⟩:=List.mem_iff_getElem.1 h
 rw [List.length_take] at hq
 rw [List.getElem_take] at e
 have hq1:q < k:=by omega
 rw [List.getElem_eraseIdx] at e
 split at e
 ·have hle:=List.length_eraseIdx_le l j
  exact List.mem_iff_getElem.2 ⟨q,by rw [List.length_take]; omega,by rw [List.getElem_take]; exact e⟩
 ·have hl : q + 1 < l.length := by
   have h2:(l.eraseIdx j).length=if j < l.length then l.length - 1 else l.length:=List.length_eraseIdx
   split at h2
   ·omega
   ·omega
  exact List.mem_iff_getElem.2 ⟨q+1,by rw [List.length_take]; omega,by rw [List.getElem_take]; exact e⟩
theorem brok_fine {m:Ms} (h:m.fine) (i:Int):(m.brok i).fine:=by
 have hle:(m.brok i).ls.length≤m.ls.length:=List.length_eraseIdx_le m.ls i.toNat
 refine ⟨h.n32,by have:=h.l128; omega,?_,h.names⟩
 intro k l hl
 have hl:(m.ls.eraseIdx i.toNat)[k]?=some l:=hl
 rw [List.getElem?_eraseIdx] at hl
 split at hl
 ·rename_i hk
  have h0:=h.links k l hl
  show linkE m.ns.length ((m.ls.eraseIdx i.toNat).take k) l=0
  have e:(m.ls.eraseIdx i.toNat).take k=m.ls.take k:=by
   apply List.ext_getElem?
   intro q
   by_cases hq:q < k
   ·rw [List.getElem?_take_of_lt hq,List.getElem?_take_of_lt hq,List.getElem?_eraseIdx,if_pos (by omega)]
   ·rw [List.getElem?_eq_none (by rw [List.length_take]; omega),List.getElem?_eq_none (by rw [List.length_take]; omega)]
  rw [e]; exact h0
 ·have h0:=linkE_zero (h.links (k+1) l hl)
  refine linkE_of h0.1 ?_ h0.2.2
  rw [List.any_eq_false]
  intro o ho
  have:=List.any_eq_false.1 h0.2.1 o (erase_take ho)
  exact this
theorem betw_erase:∀ {ls:List Lk} {j:Nat} {l:Lk} {u v:Int},ls[j]?=some l→hit l u v=false→betw (ls.eraseIdx j) u v=betw ls u v
 | x::r,0,l,u,v,h,hh=>by
  have:x=l:=by simpa using h
  subst this
  show betw r u v=betw (x::r) u v
  conv=>rhs; unfold betw
  rw [hh]; rfl
 | x::r,j+1,l,u,v,h,hh=>by
  have ih:=betw_erase (ls:=r) (j:=j) (u:=u) (v:=v) (by simpa using h) hh
  show betw (x::r.eraseIdx j) u v=betw (x::r) u v
  unfold betw
  rw [ih]
theorem set_at {s:Sts} {co nu j:Int} {x:En} {k:Int} (hj:0≤j) (hjl:j < (s.es.length:Int)) (hk:0≤k):(⟨co,nu,s.es.set j.toNat x⟩:Sts).at k=if k=j then x else s.at k:=by
 unfold Sts.at
 by_cases e:k=j
 ·subst e
  rw [if_pos rfl]
  show ((s.es.set k.toNat x)[k.toNat]?).getD _=x
  rw [List.getElem?_set_self (by omega)]; rfl
 ·rw [if_neg e]
  show ((s.es.set j.toNat x)[k.toNat]?).getD _=_
  rw [List.getElem?_set_ne (by omega)]
def Mono (m:Ms) (s t:Sts):Prop:=∀ k:Int,0≤k→k < (m.ns.length:Int)→(s.at k).nu < (t.at k).nu∨((t.at k).nu=(s.at k).nu∧(t.at k).di≤(s.at k).di)
theorem Mono.refl (m:Ms) (s:Sts):Mono m s s:=fun _ _ _=>.inr ⟨rfl,Int.le_refl _⟩
theorem begun_at {m:Ms} {i k:Int} (hi:0≤i) (hil:i < (m.ns.length:Int)) (hk:0≤k) (hkl:k < (m.ns.length:Int)):(m.begun i).at k=if k=i then ⟨1,0,i⟩ else ⟨0,0,-1⟩:=by
 have h:=set_at (s:=⟨i,1,List.replicate m.ns.length ⟨0,0,-1⟩⟩) (co:=i) (nu:=1) (x:=⟨1,0,i⟩) hi (by show i < ((List.replicate m.ns.length _).length:Int); rw [List.length_replicate]; exact hil) hk
 have e:(⟨i,1,List.replicate m.ns.length ⟨0,0,-1⟩⟩:Sts).at k=⟨0,0,-1⟩:=by
  unfold Sts.at
  show ((List.replicate m.ns.length (⟨0,0,-1⟩:En))[k.toNat]?).getD _=_
  rw [List.getElem?_replicate,if_pos (by omega)]; rfl
 rw [e] at h
 exact h
theorem Good.begun {m:Ms} (hc:m.chk=0) {i:Int} (h0:0≤i) (h1:i < (m.ns.length:Int)):Good m (m.begun i):=by
 refine ⟨hc,⟨h0,h1⟩,⟨by show (1:Int)≤1; omega,by show (1:Int)≤1000000; omega⟩,by unfold Ms.begun; show (List.set _ _ _).length=_; rw [List.length_set,List.length_replicate],?_,?_,?_,?_,?_⟩
 ·intro k hk hkl
  rw [begun_at h0 h1 hk hkl]
  show (0≤_∧_≤(1:Int))∧_
  split <;> refine ⟨⟨?_,?_⟩,⟨?_,?_⟩,?_,?_⟩ <;> simp only <;> omega
 ·show (m.begun i).at i=⟨1,0,i⟩
  rw [begun_at h0 h1 h0 h1,if_pos rfl]
 ·intro k hk hkl hki hz
  have hki:k≠i:=hki
  rw [begun_at h0 h1 hk hkl,if_neg hki]
 ·intro k hk hkl hki hz
  have hki:k≠i:=hki
  rw [begun_at h0 h1 hk hkl,if_neg hki] at hz
  exact absurd rfl hz
 ·intro k hk hkl hki hz
  have hki:k≠i:=hki
  rw [begun_at h0 h1 hk hkl,if_neg hki] at hz
  exact absurd rfl hz
theorem beac_at {m:Ms} {s:Sts} (g:Good m s) {k:Int} (hk:0≤k):s.beac.at k=if k=s.co then ⟨s.nu+1,0,s.co⟩ else s.at k:=by
 have hco:=g.co
 have hle:=g.len
 have h:=set_at (s:=s) (co:=s.co) (nu:=s.nu+1) (x:=⟨s.nu+1,(s.at s.co).di,(s.at s.co).ne⟩) hco.1 (by omega) hk
 rw [show (⟨s.nu+1,(s.at s.co).di,(s.at s.co).ne⟩:En)=⟨s.nu+1,0,s.co⟩ by rw [g.coE]] at h
 have e:s.beac=⟨s.co,s.nu+1,s.es.set s.co.toNat ⟨s.nu+1,0,s.co⟩⟩:=by unfold Sts.beac; rw [g.coE]
 rw [e]; exact h
theorem Good.beac {m:Ms} {s:Sts} (g:Good m s) (hn:s.nu < 1000000):Good m s.beac∧Mono m s s.beac:=by
 have hnu:=g.nu
 have hat:∀ k:Int,0≤k→s.beac.at k=if k=s.co then ⟨s.nu+1,0,s.co⟩ else s.at k:=fun k hk=>beac_at g hk
 refine ⟨⟨g.chk,g.co,⟨by show 1≤s.nu+1; omega,by show s.nu+1≤1000000; omega⟩,by unfold Sts.beac; show (List.set _ _ _).length=_; rw [List.length_set]; exact g.len,?_,?_,?_,?_,?_⟩,?_⟩
 ·intro k h0 h1
  have r:=g.rng k h0 h1
  have hco:=g.co
  rw [hat k h0]
  show (0≤_∧_≤s.nu+1)∧_
  split
  ·refine ⟨⟨?_,?_⟩,⟨?_,?_⟩,?_,?_⟩ <;> simp only <;> omega
  ·exact ⟨⟨r.1.1,by omega⟩,r.2⟩
 ·show s.beac.at s.co=⟨s.nu+1,0,s.co⟩
  rw [hat s.co g.co.1,if_pos rfl]
 ·intro k h0 h1 hk hz
  have hk:k≠s.co:=hk
  rw [hat k h0,if_neg hk] at hz ⊢
  exact g.bare k h0 h1 hk hz
 ·intro k h0 h1 hk hz
  have hk:k≠s.co:=hk
  rw [hat k h0,if_neg hk] at hz ⊢
  exact g.lnk k h0 h1 hk hz
 ·intro k h0 h1 hk hz
  have hk:k≠s.co:=hk
  have r:=g.rng k h0 h1
  rw [hat k h0,if_neg hk] at hz ⊢
  have l:=g.lead k h0 h1 hk hz
  rw [hat (s.at k).ne (by omega)]
  split
  ·left; show (s.at k).nu < s.nu+1; omega
  ·exact l
 ·intro k h0 h1
  have r:=g.rng k h0 h1
  rw [hat k h0]
  split
  ·left; show (s.at k).nu < s.nu+1; omega
  ·exact .inr ⟨rfl,Int.le_refl _⟩
theorem elec_at {m:Ms} {s:Sts} (g:Good m s) {i k:Int} (hi:0≤i) (hil:i < (m.ns.length:Int)) (hk:0≤k):(s.elec i).at k=if k=i then ⟨s.nu+1,0,i⟩ else if k=s.co then ⟨s.nu,0,-1⟩ else s.at k:=by
 have hco:=g.co
 have hle:=g.len
 have h1:=set_at (s:=s) (co:=s.co) (nu:=s.nu) (x:=⟨s.nu,0,-1⟩) (k:=k) hco.1 (by omega) hk
 have h2:=set_at (s:=⟨s.co,s.nu,s.es.set s.co.toNat ⟨s.nu,0,-1⟩⟩) (co:=i) (nu:=s.nu+1) (x:=⟨s.nu+1,0,i⟩) (k:=k) hi (by show i < ((s.es.set _ _).length:Int); rw [List.length_set]; omega) hk
 rw [h1] at h2
 exact h2
theorem Good.elec {m:Ms} {s:Sts} (g:Good m s) {i:Int} (hi:0≤i) (hil:i < (m.ns.length:Int)) (hne:i≠s.co) (hn:s.nu < 1000000):Good m (s.elec i)∧Mono m s (s.elec i):=by
 have hnu:=g.nu
 have hco:=g.co
 have hat:∀ k:Int,0≤k→(s.elec i).at k=if k=i then ⟨s.nu+1,0,i⟩ else if k=s.co then ⟨s.nu,0,-1⟩ else s.at k:=fun k hk=>elec_at g hi hil hk
 refine ⟨⟨g.chk,⟨hi,hil⟩,⟨by show 1≤s.nu+1; omega,by show s.nu+1≤1000000; omega⟩,by unfold Sts.elec; show (List.set _ _ _).length=_; rw [List.length_set,List.length_set]; exact g.len,?_,?_,?_,?_,?_⟩,?_⟩
 ·intro k h0 h1
  have r:=g.rng k h0 h1
  rw [hat k h0]
  show (0≤_∧_≤s.nu+1)∧_
  split
  ·refine ⟨⟨?_,?_⟩,⟨?_,?_⟩,?_,?_⟩ <;> simp only <;> omega
  ·split
   ·refine ⟨⟨?_,?_⟩,⟨?_,?_⟩,?_,?_⟩ <;> simp only <;> omega
   ·exact ⟨⟨r.1.1,by omega⟩,r.2⟩
 ·show (s.elec i).at i=⟨s.nu+1,0,i⟩
  rw [hat i hi,if_pos rfl]
 ·intro k h0 h1 hk hz
  have hk:k≠i:=hk
  rw [hat k h0,if_neg hk] at hz ⊢
  split at hz
  ·have hz:s.nu=0:=hz
   omega
  ·rename_i hc
   rw [if_neg hc]
   exact g.bare k h0 h1 hc hz
 ·intro k h0 h1 hk hz
  have hk:k≠i:=hk
  rw [hat k h0,if_neg hk] at hz ⊢
  split at hz
  ·exact absurd rfl hz
  ·rename_i hc
   rw [if_neg hc]
   exact g.lnk k h0 h1 hc hz
 ·intro k h0 h1 hk hz
  have hk:k≠i:=hk
  have r:=g.rng k h0 h1
  rw [hat k h0,if_neg hk] at hz ⊢
  split at hz
  ·exact absurd rfl hz
  ·rename_i hc
   rw [if_neg hc]
   have l:=g.lead k h0 h1 hc hz
   rw [hat (s.at k).ne (by omega)]
   split
   ·left; show (s.at k).nu < s.nu+1; omega
   ·split
    ·rename_i he
     rw [he,g.coE] at l
     rw [he]
     exact l
    ·exact l
 ·intro k h0 h1
  have r:=g.rng k h0 h1
  rw [hat k h0]
  split
  ·left; show (s.at k).nu < s.nu+1; omega
  ·split
   ·rename_i he
    rw [he,g.coE]
    exact .inr ⟨rfl,Int.le_refl _⟩
   ·exact .inr ⟨rfl,Int.le_refl _⟩
theorem cut1_at {s:Sts} {i o k:Int} (hi:0≤i) (hil:i < (s.es.length:Int)) (hk:0≤k):(⟨s.co,s.nu,cut1 s.es i o⟩:Sts).at k=if k=i∧(s.at i).ne=o then ⟨(s.at i).nu,(s.at i).di,-1⟩ else s.at k:=by
 have hx:=Sts.at_getI (s:=s) (i:=i) (by omega)
 by_cases h:(s.at i).ne=o
 ·rw [cut1_yes hx h,set_at hi hil hk]
  by_cases e:k=i
  ·rw [if_pos e,if_pos ⟨e,h⟩]
  ·rw [if_neg e,if_neg (fun x=>e x.1)]
 ·rw [cut1_no hx h,if_neg (fun x=>h x.2)]
theorem brok_len2 (s:Sts) (m:Ms) (i:Int):(s.brok m i).es.length=s.es.length:=by
 unfold Sts.brok
 show (match m.ls[i.toNat]? with | some l=>cut2 s.es l | none=>s.es).length=_
 split
 ·unfold cut2; rw [cut1_len,cut1_len]
 ·rfl
theorem Good.heard {m:Ms} {s:Sts} (g:Good m s) {a b:Int} (ha:0≤a∧a < (m.ns.length:Int)) (hb:0≤b∧b < (m.ns.length:Int)) (hbt:betw m.ls a b≠0):Good m (s.heard m a b)∧Mono m s (s.heard m a b):=by
 have hle:=g.len
 have hrng:=(chk_fine g.chk).rng a b
 have st:∀ k:Int,0≤k→k < (m.ns.length:Int)→(s.heard m a b).at k=s.at k∨(k≠s.co∧∃ u:Int,0≤u∧u < (m.ns.length:Int)∧(s.at u).ne≠-1∧0 < betw m.ls u k∧(s.at u).di+betw m.ls u k≤3200∧(s.heard m a b).at k=ofE m s u k∧((s.heard m a b).at k).bet (s.at k)):=fun k hk hkl=>by
  have e:(s.heard m a b).at k=if k=a then Vc.hr m s [] a (s.at a) b else s.at k:=set_at (s:=s) (co:=s.co) (nu:=s.nu) (x:=Vc.hr m s [] a (s.at a) b) ha.1 (by omega) hk
  rw [e]
  by_cases hka:k=a
  ·subst hka
   rw [if_pos rfl]
   rcases hr_ref m s [] k b (s.at k) with e2 | ⟨h1,h2,_,h4,e2⟩
   ·exact .inl e2
   ·right
    unfold ofB at h1
    simp only [Bool.and_eq_true,Bool.not_eq_true',beq_eq_false_iff_ne,decide_eq_true_eq] at h1
    refine ⟨h2,b,hb.1,hb.2,h1.1,by rw [betw_comm]; omega,h1.2,e2,?_⟩
    rw [e2]; exact betB_iff.1 h4
  ·rw [if_neg hka]; exact .inl rfl
 refine ⟨g.hears rfl rfl (heard_len m s a b) st,fun k hk hkl=>?_⟩
 rcases st k hk hkl with e | ⟨_,u,_,_,_,_,_,_,hb⟩
 ·rw [e]; exact .inr ⟨rfl,Int.le_refl _⟩
 ·unfold En.bet at hb; omega
end Vc
set_option maxRecDepth 10000
namespace Vc
open Go Go.Proofs
section
variable {n : Nat} {g : Nat → Nat → Bool} {f : Nat}
end
theorem calm_of_tot {n f:Nat} {ls:List Lk} (hn:n≤32) (hf:f < n) (hl:∀ l∈ls,l.okIn n):∀ (t m:Nat),(tot (passes ls m (start n f))).toNat≤t→∃ k,moved ls (passes ls k (start n f))=false
 | t,m,h=>by
  cases hm:moved ls (passes ls m (start n f))
  ·exact ⟨m,hm⟩
  ·have h1:=pass_fall hn hf hl m hm
   have h2:=tot_nn (passes ls (m+1) (start n f))
   cases t with
   | zero=>omega
   | succ t=>exact calm_of_tot hn hf hl t (m+1) (by omega)
theorem dist_calm {n f:Nat} {ls:List Lk} (hn:n≤32) (hf:f < n) (hl:∀ l∈ls,l.okIn n):calm ls (passes ls (n - 1) (start n f)):=by
 obtain ⟨k,hk⟩:=calm_of_tot hn hf hl _ 0 (Nat.le_refl _)
 rw [← dist_stop hn hf hl hk]; exact moved_calm hk
theorem Ms.fine.distOk {m:Ms} (h:m.fine) {f:Int} (h0:0≤f) (h1:f < (m.ns.length:Int)):DOk m.ns.length f.toNat (m.dist f):=passes_ok h.n32 (by omega) h.okIn _
theorem Ms.fine.distCalm {m:Ms} (h:m.fine) {f:Int} (h0:0≤f) (h1:f < (m.ns.length:Int)):calm m.ls (m.dist f):=dist_calm h.n32 (by omega) h.okIn
theorem Ms.fine.distTight {m:Ms} (h:m.fine) {f:Int} (h0:0≤f) (h1:f < (m.ns.length:Int)):tight m.ls f.toNat (m.dist f):=passes_tight h.n32 (by omega) h.okIn _
theorem dir_calm {ls:List Lk} {d:List Int} (h:calm ls d) {x y:Nat} {c:Int} (hd:dir ls x y c):bett d x y c=false:=by
 obtain ⟨l,hl,rfl,⟨rfl,rfl⟩ | ⟨rfl,rfl⟩⟩:=hd
 ·exact (h l hl).1
 ·exact (h l hl).2
theorem dir_step {ls:List Lk} {d:List Int} (h:calm ls d) {x y:Nat} {c:Int} (hd:dir ls x y c) (h0:0≤at0 d x):0≤at0 d y∧at0 d y≤at0 d x+c:=by
 have h1:=dir_calm h hd
 rcases Int.lt_or_le (at0 d y) 0 with hy | hy
 ·rw [bett_iff.2 ⟨h0,.inl hy⟩] at h1; cases h1
 ·refine ⟨hy,Int.not_lt.1 fun hlt=>?_⟩
  rw [bett_iff.2 ⟨h0,.inr hlt⟩] at h1; cases h1
theorem reachN_mem (d:List Int) (x:Int):∀ k,x∈reachN d k↔0≤x∧x < (k:Int)∧0≤at0 d x.toNat
 | 0=>⟨(fun h=>by cases h),(fun h=>by omega)⟩
 | k+1=>by
  have ih:=reachN_mem d x k
  rw [reachN,List.mem_append,ih]
  by_cases hd:0≤at0 d k
  ·rw [decide_eq_true hd]
   show _∨x∈[(k:Int)]↔_
   rw [List.mem_singleton]
   constructor
   ·rintro (h | rfl)
    ·omega
    ·exact ⟨by omega,by omega,by show 0≤at0 d k; exact hd⟩
   ·intro h
    by_cases hx:x=(k:Int)
    ·exact .inr hx
    ·exact .inl (by omega)
  ·rw [decide_eq_false hd]
   show _∨x∈[]↔_
   constructor
   ·rintro (h | h)
    ·omega
    ·cases h
   ·intro h
    refine .inl ⟨h.1,?_,h.2.2⟩
    have:x≠(k:Int):=fun e=>hd (by rw [e] at h; exact h.2.2)
    omega
theorem reach_mem {m:Ms} {f x:Int}:x∈m.reach f↔0≤x∧x < (m.ns.length:Int)∧0≤at0 (m.dist f) x.toNat:=by
 unfold Ms.reach
 rw [reachN_mem,dist_len]
end Vc
set_option maxRecDepth 10000
namespace Vc
open Go Go.Proofs
def Sts.calm (m:Ms) (s:Sts):Sts:=s.beac.rounds m (m.ns.length - 1)
theorem rounds_stay {m:Ms} {s:Sts} {k:Nat} (h:(s.rounds m (k+1)).es=(s.rounds m k).es):∀ j,s.rounds m (k+j)=s.rounds m k
 | 0=>rfl
 | j+1=>by
  have ih:=rounds_stay h j
  have e:s.rounds m (k+1)=s.rounds m k:=by
   have h1:(s.rounds m (k+1)).co=(s.rounds m k).co:=rfl
   have h2:(s.rounds m (k+1)).nu=(s.rounds m k).nu:=rfl
   generalize s.rounds m (k+1)=a at *
   generalize s.rounds m k=b at *
   cases a; cases b
   simp only at h h1 h2
   subst h; subst h1; subst h2; rfl
  show (s.rounds m (k+j)).round m []=_
  rw [ih]; exact e
theorem restK_is {m:Ms} {s:Sts} (g:Good m s):∀ f k,m.ns.length≤f+k→k < m.ns.length→(s.rounds m (restK m s f k+1)).es=(s.rounds m (restK m s f k)).es∧restK m s f k < m.ns.length
 | 0,k,h,hk=>by omega
 | f+1,k,h,hk=>by
  by_cases h1:(s.rounds m (k+1)).es=(s.rounds m k).es
  ·rw [restK_stop h1]; exact ⟨h1,hk⟩
  ·rw [restK_go h1]
   have:=g.ne_lt h1
   exact restK_is g f (k+1) (by omega) this
theorem Good.K_is {m:Ms} {s:Sts} (g:Good m s):(s.rounds m (s.K m+1)).es=(s.rounds m (s.K m)).es∧s.K m < m.ns.length:=by
 have:=g.co
 exact restK_is g _ 0 (by omega) (by omega)
section
variable {m : Ms} {s : Sts} (g : Good m s) (hn : s.nu < 1000000)
include g hn
theorem Good.calm_good:Good m (s.calm m):=(g.beac hn).1.rounds _
omit g hn in
theorem calm_co:(s.calm m).co=s.co:=rounds_co m _ _
theorem Good.way_dist:∀ (F v:Nat),v < m.ns.length→(wayN (nes (s.calm m).es) F v).getLast?=some s.co→0≤at0 (m.dist s.co) v
 | 0,v,_,h=>by cases h
 | F+1,v,hv,h=>by
  have gc:=g.calm_good hn
  have hl:=gc.len
  have hc:=g.co
  have fi:=chk_fine g.chk
  by_cases e:(v:Int)=s.co
  ·have hz:=(fi.distOk hc.1 hc.2).zero
   rw [show v=s.co.toNat by omega,hz]; exact Int.le_refl _
  ·have ee:at0 (nes (s.calm m).es) ((v:Int)).toNat=((s.calm m).at v).ne:=nes_at (by omega) (by omega)
   by_cases h1:at0 (nes (s.calm m).es) ((v:Int)).toNat < 0∨at0 (nes (s.calm m).es) ((v:Int)).toNat=(v:Int)
   ·rw [wayN_stop (by omega) h1] at h
    exact absurd (Option.some.inj h) e
   ·rw [wayN_go (by omega) (by omega) (by omega),ee] at h
    have r:=gc.rng v (by omega) (by omega)
    have hnn:((s.calm m).at v).ne≠-1:=by omega
    have k:=gc.nxt (a:=(v:Int)) (by omega) (by omega) (by rw [calm_co]; exact e) hnn
    have eu:((((s.calm m).at v).ne.toNat:Nat):Int)=((s.calm m).at v).ne:=by omega
    cases hw:wayN (nes (s.calm m).es) F ((s.calm m).at v).ne with
    | nil=>rw [hw] at h; exact absurd (Option.some.inj h) e
    | cons a b =>
     have h2:(wayN (nes (s.calm m).es) F ((s.calm m).at v).ne).getLast?=some s.co:=by
      rw [hw] at h ⊢; rw [← h]; rfl
     rw [← eu] at h2
     have ih:=Good.way_dist F _ (by omega) h2
     refine (dir_step (fi.distCalm hc.1 hc.2) (fi.betw_dir.2 ⟨rfl,?_⟩) ih).1
     rw [eu,betw_comm]; exact k.2.2.2.1
end
theorem reachN_asc (d:List Int):∀ k,(reachN d k).Pairwise (· < ·)
 | 0=>List.Pairwise.nil
 | k+1=>by
  rw [reachN,List.pairwise_append]
  refine ⟨reachN_asc d k,?_,fun a ha b hb=>?_⟩
  ·cases decide (0≤at0 d k)
   ·exact List.Pairwise.nil
   ·exact List.pairwise_singleton _ _
  ·have:=((reachN_mem d a k).1 ha).2.1
   cases hd:decide (0≤at0 d k) <;> rw [hd] at hb
   ·cases hb
   ·have hb:b∈[(k:Int)]:=hb
    rw [List.mem_singleton] at hb; omega
theorem reach_bar {m:Ms} (h:m.fine) {f t:Int} (h0:0≤f) (h1:f < (m.ns.length:Int)) (ht:(m.reach f).contains t=false):barE m f t (m.reach f)=0:=by
 have hlen:=reach_len m f
 have h32:=h.n32
 have hasc:(m.reach f).Pairwise (· < ·):=reachN_asc _ _
 have hs:scanE (setE m) [] (m.reach f)=0:=scan_ok_of fun k x hx=>by
  obtain ⟨q0,q1,q2⟩:=reach_mem.1 (List.mem_of_getElem? hx)
  have hz:m.nodeE x=0:=by
   unfold Ms.nodeE outN
   rw [decide_eq_false (by omega),decide_eq_false (by omega)]; rfl
  cases k with
  | zero=>rw [setE_0,hz]; rfl
  | succ k =>
   have hk:=(List.getElem?_eq_some_iff.1 hx).1
   obtain ⟨y,hy⟩:=get_lt (m.reach f) (k:=k) (by omega)
   rw [setE_s (by omega) hy,hz]
   have hlt:y < x:=by
    obtain ⟨p1,p2⟩:=List.getElem?_eq_some_iff.1 hx
    obtain ⟨p3,p4⟩:=List.getElem?_eq_some_iff.1 hy
    have:=List.pairwise_iff_getElem.1 hasc k (k+1) p3 p1 (by omega)
    rw [p2,p4] at this; exact this
   rw [decide_eq_false (by omega)]; rfl
 rw [barE_3 (by omega) hs]
 have hc:(m.reach f).contains f=true:=by
  rw [List.contains_iff_mem,reach_mem,(h.distOk h0 h1).zero]; exact ⟨h0,h1,Int.le_refl _⟩
 have hx:m.ls.any (crossB (m.reach f))=false:=by
  rw [List.any_eq_false]
  intro l hl
  have hk:=h.link hl
  have cl:=h.distCalm h0 h1
  have d1:dir m.ls l.a.toNat l.b.toNat l.c:=⟨l,hl,rfl,.inl ⟨rfl,rfl⟩⟩
  have d2:dir m.ls l.b.toNat l.a.toNat l.c:=⟨l,hl,rfl,.inr ⟨rfl,rfl⟩⟩
  have e:(m.reach f).contains l.a=(m.reach f).contains l.b:=by
   rw [Bool.eq_iff_iff,List.contains_iff_mem,List.contains_iff_mem,reach_mem,reach_mem]
   exact ⟨fun h=>⟨by omega,by omega,(dir_step cl d1 h.2.2).1⟩,fun h=>⟨by omega,by omega,(dir_step cl d2 h.2.2).1⟩⟩
  unfold crossB
  rw [e]; simp
 rw [hc,ht,hx]; rfl
end Vc
set_option maxRecDepth 10000
namespace Vc.L
open Go Go.Proofs Go.RowKit
def hasFnB (P:Program) (f:FuncId):Bool :=
 match P.funcs[f]? with
 | some fn=>fn.body.isSome&&!(fn.name == "runtime.NumGoroutine")
 | none=>false
theorem hasFnB_spec {P:Program} {f:FuncId} (h:hasFnB P f=true):HasFn P f:=by
 unfold hasFnB at h
 split at h
 ·rename_i fn hf
  simp only [Bool.and_eq_true,Bool.not_eq_true'] at h
  exact ⟨fn,hf,h.1,h.2⟩
 ·cases h
theorem rows_str {w:World} {S:Nat→Nat→Prop}:∀ {l:List (List UInt8)} {b off:Nat},DRows w S (l.map .str) b off 1→∀ (j:Nat) x,l[j]?=some x→w.cell? ⟨b,off+j,none⟩=some (str x)∧S b (off+j)
 | [],b,off,_,j,x,hx=>by simp at hx
 | s::l,b,off,h,0,x,hx=>by
  simp only [List.map_cons,DRows] at h
  simp at hx
  subst hx
  obtain ⟨⟨_,h1,v,h2,h3⟩,_⟩:=h
  simp only [DRel] at h3
  subst h3
  exact ⟨h2,h1⟩
 | s::l,b,off,h,j+1,x,hx=>by
  simp only [List.map_cons,DRows] at h
  have:=rows_str h.2 j x (by simpa using hx)
  rwa [show off+(j+1)=off+1+j by omega]
end Vc.L
set_option maxRecDepth 10000
namespace Vc.L
open Go Go.Proofs
def ir83:AFun:=⟨7,0,[.tmp 4],
 (.seq
 (.reg [] [⟨some 4,.mov (.cst (.d (.int .i64 0))),none⟩])
 (.seq
 (.seq
 (.reg [] [⟨some 5,.mov (.tmp 0),none⟩])
 (.cond (.tmp 5)
 (.seq
 (.reg [] [⟨some 6,.mov (.tmp 1),none⟩,
 ⟨some 4,.mov (.tmp 6),none⟩])
 .ret)
 .skip))
 (.seq
 (.reg [] [⟨some 4,.mov (.cst (.d (.int .i64 0))),none⟩])
 .ret)))⟩
def ir82:AFun:=⟨16,0,[.tmp 6],
 (.seq
 (.reg [] [⟨some 6,.mov (.cst (.d (.int .i64 0))),none⟩])
 (.seq
 (.reg [] [⟨some 7,.mov (.tmp 0),none⟩,
 ⟨some 8,.mov (.tmp 1),none⟩,
 ⟨some 9,.cmp .lss (.tmp 7) (.tmp 8),none⟩,
 ⟨some 10,.mov (.tmp 9),none⟩,
 ⟨some 11,.mov (.tmp 0),some (10,false)⟩,
 ⟨some 12,.mov (.tmp 2),some (10,false)⟩,
 ⟨some 13,.cmp .gtr (.tmp 11) (.tmp 12),some (10,false)⟩,
 ⟨some 14,.pick (.tmp 10) (.cst (.d (.bool true))) (.tmp 13),none⟩,
 ⟨some 15,.call 69 [(.tmp 14),(.cst (.d (.int .i64 3)))],none⟩,
 ⟨some 6,.mov (.tmp 15),none⟩])
 .ret))⟩
def ir81:AFun:=⟨15,0,[.tmp 2],
 (.seq
 (.reg [] [⟨some 2,.mov (.cst (.d (.int .i64 0))),none⟩])
 (.seq
 (.seq
 (.reg [] [⟨some 5,.mov (.tmp 0),none⟩,
 ⟨some 6,.len (.tmp 5),none⟩,
 ⟨some 7,.mov (.cst (.d (.int .i64 0))),none⟩])
 (.post [] []
 (.block 0
 (.keep [5,6,7] []
 (.loop
 (.post [5,6,7] []
 (.seq
 (.reg [] [⟨some 8,.cmp .lss (.tmp 7) (.tmp 6),none⟩])
 (.seq
 (.cond (.tmp 8)
 .skip
 (.exit 0))
 (.seq
 (.block 1
 (.seq
 (.reg [] [⟨some 9,.ixa 1 (.tmp 5) (.tmp 7),none⟩,
 ⟨some 10,.ld false 1 (.tmp 9),none⟩,
 ⟨some 4,.mov (.tmp 10),none⟩])
 (.seq
 (.reg [] [⟨some 11,.mov (.tmp 4),none⟩,
 ⟨some 12,.cmp .neq (.tmp 11) (.cst (.d (.int .i64 0))),none⟩])
 (.cond (.tmp 12)
 (.seq
 (.reg [] [⟨some 13,.mov (.tmp 4),none⟩,
 ⟨some 2,.mov (.tmp 13),none⟩])
 .ret)
 .skip))))
 (.reg [] [⟨some 14,.arith .add .i64 (.tmp 7) (.cst (.d (.int .i64 1))),none⟩,
 ⟨some 7,.mov (.tmp 14),none⟩]))))))))))
 (.seq
 (.reg [] [⟨some 2,.mov (.cst (.d (.int .i64 0))),none⟩])
 .ret)))⟩
def ir37:AFun:=⟨5,0,[.tmp 2],
 (.seq
 (.reg [] [⟨some 2,.mov (.cst (.d (.int .i64 0))),none⟩])
 (.seq
 (.reg [] [⟨some 3,.mov (.tmp 0),none⟩,
 ⟨some 4,.call 39 [(.tmp 3)],none⟩,
 ⟨some 2,.mov (.tmp 4),none⟩])
 .ret))⟩
def ir89:AFun:=⟨19,0,[.tmp 2],
 (.seq
 (.reg [] [⟨some 2,.mov (.cst (.d (.int .i64 0))),none⟩])
 (.seq
 (.seq
 (.reg [] [⟨some 3,.mov (.cst (.d (.int .i64 0))),none⟩])
 (.post [] []
 (.block 0
 (.keep [0,3] []
 (.loop
 (.post [0,3] []
 (.seq
 (.seq
 (.reg [] [⟨some 4,.mov (.tmp 3),none⟩,
 ⟨some 5,.mov (.tmp 0),none⟩,
 ⟨some 6,.len (.tmp 5),none⟩,
 ⟨some 7,.cmp .lss (.tmp 4) (.tmp 6),none⟩])
 (.cond (.tmp 7)
 .skip
 (.exit 0)))
 (.seq
 (.block 1
 (.seq
 (.reg [] [⟨some 10,.mov (.tmp 0),none⟩,
 ⟨some 11,.mov (.tmp 3),none⟩,
 ⟨some 12,.ixa 1 (.tmp 10) (.tmp 11),none⟩,
 ⟨some 13,.ld false 1 (.tmp 12),none⟩,
 ⟨some 14,.cmp .neq (.tmp 13) (.cst (.d (.int .i64 0))),none⟩])
 (.cond (.tmp 14)
 (.seq
 (.reg [] [⟨some 15,.mov (.tmp 0),none⟩,
 ⟨some 16,.mov (.tmp 3),none⟩,
 ⟨some 17,.ixa 1 (.tmp 15) (.tmp 16),none⟩,
 ⟨some 18,.ld false 1 (.tmp 17),none⟩,
 ⟨some 2,.mov (.tmp 18),none⟩])
 .ret)
 .skip)))
 (.reg [] [⟨some 8,.mov (.tmp 3),none⟩,
 ⟨some 9,.arith .add .i64 (.tmp 8) (.cst (.d (.int .i64 1))),none⟩,
 ⟨some 3,.mov (.tmp 9),none⟩])))))))))
 (.seq
 (.reg [] [⟨some 2,.mov (.cst (.d (.int .i64 0))),none⟩])
 .ret)))⟩
theorem c83 (c:Bool) (e:Int):CallDet Tryz.prog 69 [.d (.bool c),.d (.int .i64 e)] [.int .i64 (bif c then e else 0)]:=by
 refine call_of_vc (x:=ir83) (by kernel_rfl) rfl ?_
 refine b_intro ?_ ?_
 ·intro h; subst h
  exact rfl
 ·intro h; subst h
  exact rfl
theorem c82 (x lo hi:Int):CallDet Tryz.prog 48 [.d (.int .i64 x),.d (.int .i64 lo),.d (.int .i64 hi)] [.int .i64 (bif decide (x < lo)||decide (hi < x) then 3 else 0)]:=by
 refine call_of_vc (x:=ir82) (by kernel_rfl) rfl ?_
 refine sd ?_
 refine b_intro ?_ ?_
 ·intro h
  refine sd ?_
  refine ca (c83 _ _) ?_
  have h:decide (x < lo)=true:=h
  rw [h]
  exact rfl
 ·intro h
  refine sd ?_
  refine ca (c83 _ _) ?_
  have h:decide (x < lo)=false:=h
  rw [h]
  exact rfl
def ints (es:List Int):List Data:=es.map (.int .i64)
def firstOf:List Int→Int
 | []=>0
 | e::r=>bif e != 0 then e else firstOf r
theorem ints_get {es:List Int} {k:Nat} {e:Int} (h:es[k]?=some e):(ints es)[(k:Int).toNat]?=some (.int .i64 e):=by
 simp [ints,h]
theorem drop_get {es:List Int} {k:Nat} {e:Int} (h:es[k]?=some e):es.drop k=e::es.drop (k+1):=by
 obtain ⟨h1,rfl⟩:=List.getElem?_eq_some_iff.1 h
 exact List.drop_eq_getElem_cons h1
theorem c81 (es:List Int) (hl:es.length < 9223372036854775807):CallDet Tryz.prog 46 [.d (.slice 1 (ints es))] [.int .i64 (firstOf es)]:=by
 refine call_of_vc (x:=ir81) (by kernel_rfl) rfl ?_
 refine loop_st (fun k:Nat=>⟨[(5,.d (.slice 1 (ints es))),(6,.d (.int .i64 (ints es).length)),(7,.d (.int .i64 k))],[]⟩)
  (fun k=>firstOf es=firstOf (es.drop k)) (fun k=>es.length - k) 0 rfl rfl ?_
 intro k hk
 refine sd ?_
 refine b_intro ?_ ?_
 ·intro h
  have h:(k:Int) < (ints es).length:=of_decide_eq_true h
  have h1:k < es.length:=by simp [ints] at h; exact h
  obtain ⟨e,he⟩:∃ e,es[k]?=some e:=⟨_,List.getElem?_eq_getElem h1⟩
  refine ix_at (ints_get he) (by omega) ?_
  refine sd ?_
  refine b_intro ?_ ?_
  ·intro h2
   have h2:(e != 0)=true:=h2
   rw [hk,drop_get he,firstOf,h2]
   exact rfl
  ·intro h2
   have h2:(e != 0)=false:=h2
   refine ar_add (by omega) ?_
   refine ⟨k+1,⟨?_,by omega⟩,rfl⟩
   rw [hk,drop_get he,firstOf,h2]
   rfl
 ·intro h
  have h:¬ ((k:Int) < (ints es).length):=of_decide_eq_false h
  have h1:es.length≤k:=by simp [ints] at h; exact h
  rw [hk,List.drop_eq_nil_of_le h1]
  exact rfl
end Vc.L
set_option maxRecDepth 10000
namespace Vc.L
open Go Go.Proofs
def ir90:AFun:=⟨5,1,[.cell 0 9 true],
 (.seq
 (.reg [0] [⟨some 0,.alloc 0 [.undef,(.d (.int .i64 0)),.undef,.undef,(.d (.int .i64 0)),.undef,.undef,(.d (.int .i64 0)),.undef],none⟩])
 (.seq
 (.reg [] [⟨some 1,.build [.undef,(.d (.int .i64 0)),.undef] [(0,1,(.cst (.d (.fn (.func 130) [])))),(1,1,(.cst (.d (.int .i64 0)))),(2,1,(.cst (.d (.fn (.func 131) []))))],none⟩,
 ⟨some 2,.build [.undef,(.d (.int .i64 0)),.undef] [(0,1,(.cst (.d (.fn (.func 132) [])))),(1,1,(.cst (.d (.int .i64 1)))),(2,1,(.cst (.d (.fn (.func 133) []))))],none⟩,
 ⟨some 3,.build [.undef,(.d (.int .i64 0)),.undef] [(0,1,(.cst (.d (.fn (.func 134) [])))),(1,1,(.cst (.d (.int .i64 0)))),(2,1,(.cst (.d (.fn (.func 135) []))))],none⟩,
 ⟨some 4,.build [.undef,(.d (.int .i64 0)),.undef,.undef,(.d (.int .i64 0)),.undef,.undef,(.d (.int .i64 0)),.undef] [(0,3,(.tmp 1)),(3,3,(.tmp 2)),(6,3,(.tmp 3))],none⟩,
 ⟨none,.st 9 (.tmp 0) (.tmp 4),none⟩])
 .ret))⟩
def ir125:AFun:=⟨5,1,[.tmp 2],
 (.seq
 (.reg [0] [⟨some 1,.cbx 0 4 (.tmp 0),none⟩,
 ⟨some 2,.mov (.cst (.d (.int .i64 0))),none⟩])
 (.seq
 (.reg [] [⟨some 3,.fad 0 (.tmp 1),none⟩,
 ⟨some 4,.ld false 1 (.tmp 3),none⟩,
 ⟨some 2,.mov (.tmp 4),none⟩])
 .ret))⟩
def ir126:AFun:=⟨3,1,[.tmp 2],
 (.seq
 (.reg [0] [⟨some 1,.cbx 0 4 (.tmp 0),none⟩,
 ⟨some 2,.mov (.cst (.d (.int .i64 0))),none⟩])
 (.seq
 (.reg [] [⟨some 2,.mov (.cst (.d (.int .i64 255))),none⟩])
 .ret))⟩
def ir127:AFun:=⟨5,1,[.tmp 2],
 (.seq
 (.reg [0] [⟨some 1,.cbx 0 4 (.tmp 0),none⟩,
 ⟨some 2,.mov (.cst (.d (.int .i64 0))),none⟩])
 (.seq
 (.reg [] [⟨some 3,.fad 2 (.tmp 1),none⟩,
 ⟨some 4,.ld false 1 (.tmp 3),none⟩,
 ⟨some 2,.mov (.tmp 4),none⟩])
 .ret))⟩
def ir128:AFun:=⟨3,1,[.tmp 2],
 (.seq
 (.reg [0] [⟨some 1,.cbx 0 4 (.tmp 0),none⟩,
 ⟨some 2,.mov (.cst (.d (.int .i64 0))),none⟩])
 (.seq
 (.reg [] [⟨some 2,.mov (.cst (.d (.int .i64 64))),none⟩])
 .ret))⟩
def ir129:AFun:=⟨5,1,[.tmp 2],
 (.seq
 (.reg [0] [⟨some 1,.cbx 0 4 (.tmp 0),none⟩,
 ⟨some 2,.mov (.cst (.d (.int .i64 0))),none⟩])
 (.seq
 (.reg [] [⟨some 3,.fad 1 (.tmp 1),none⟩,
 ⟨some 4,.ld false 1 (.tmp 3),none⟩,
 ⟨some 2,.mov (.tmp 4),none⟩])
 .ret))⟩
def ir130:AFun:=⟨6,1,[.tmp 2],
 (.seq
 (.reg [0] [⟨some 1,.cbx 0 4 (.tmp 0),none⟩,
 ⟨some 2,.mov (.cst (.d (.int .i64 0))),none⟩])
 (.seq
 (.reg [] [⟨some 3,.fad 2 (.tmp 1),none⟩,
 ⟨some 4,.ld false 1 (.tmp 3),none⟩,
 ⟨some 5,.arith .sub .i64 (.tmp 4) (.cst (.d (.int .i64 1))),none⟩,
 ⟨some 2,.mov (.tmp 5),none⟩])
 .ret))⟩
def ir30:AFun:=⟨30,2,[.tmp 2],
 (.seq
 (.reg [0] [⟨some 1,.cbx 0 4 (.tmp 0),none⟩,
 ⟨some 2,.mov (.cst (.d (.int .i64 0))),none⟩])
 (.seq
 (.seq
 (.reg [] [⟨some 6,.call 129 [],none⟩,
 ⟨some 7,.mov (.cst (.d (.int .i64 0))),none⟩])
 (.post [1] [0,1]
 (.block 0
 (.keep [1,6,7] [0]
 (.loop
 (.post [1,6,7] [1]
 (.seq
 (.reg [] [⟨some 8,.cmp .lss (.tmp 7) (.cst (.d (.int .i64 3))),none⟩])
 (.seq
 (.cond (.tmp 8)
 .skip
 (.exit 0))
 (.seq
 (.block 1
 (.seq
 (.reg [1] [⟨some 9,.ixv true 3 3 (.tmp 6) (.tmp 7),none⟩,
 ⟨some 4,.alloc 1 [.undef,(.d (.int .i64 0)),.undef],none⟩,
 ⟨none,.st 3 (.tmp 4) (.tmp 9),none⟩])
 (.seq
 (.regd [] [⟨some 10,.fad 0 (.tmp 4),none⟩,
 ⟨some 11,.ld false 1 (.tmp 10),none⟩,
 ⟨some 12,.ld true 4 (.tmp 1),none⟩,
 ⟨some 13,.callv (.tmp 11) [(.tmp 12)],none⟩,
 ⟨some 14,.fad 1 (.tmp 4),none⟩,
 ⟨some 15,.ld false 1 (.tmp 14),none⟩,
 ⟨some 16,.fad 2 (.tmp 4),none⟩,
 ⟨some 17,.ld false 1 (.tmp 16),none⟩,
 ⟨some 18,.ld true 4 (.tmp 1),none⟩,
 ⟨some 19,.callv (.tmp 17) [(.tmp 18)],none⟩,
 ⟨some 20,.call 48 [(.tmp 13),(.tmp 15),(.tmp 19)],none⟩,
 ⟨some 5,.mov (.tmp 20),none⟩] [(0,2),(1,2),(0,4),(1,4),(2,4),(3,4),(0,5),(1,5),(2,5),(3,5),(0,6),(1,6),(2,6),(3,6),(4,6),(5,6),(0,7),(1,7),(2,7),(3,7),(4,7),(5,7),(0,8),(1,8),(2,8),(3,8),(4,8),(5,8),(6,8),(7,8),(4,9),(5,9)])
 (.seq
 (.reg [] [⟨some 21,.mov (.tmp 5),none⟩,
 ⟨some 22,.cmp .neq (.tmp 21) (.cst (.d (.int .i64 0))),none⟩])
 (.cond (.tmp 22)
 (.seq
 (.reg [] [⟨some 23,.mov (.tmp 5),none⟩,
 ⟨some 2,.mov (.tmp 23),none⟩])
 .ret)
 .skip)))))
 (.reg [] [⟨some 24,.arith .add .i64 (.tmp 7) (.cst (.d (.int .i64 1))),none⟩,
 ⟨some 7,.mov (.tmp 24),none⟩]))))))))))
 (.seq
 (.reg [] [⟨some 25,.fad 3 (.tmp 1),none⟩,
 ⟨some 26,.ld false 1 (.tmp 25),none⟩,
 ⟨some 27,.len (.tmp 26),none⟩,
 ⟨some 28,.cmp .gtr (.tmp 27) (.cst (.d (.int .i64 12))),none⟩,
 ⟨some 29,.call 69 [(.tmp 28),(.cst (.d (.int .i64 5)))],none⟩,
 ⟨some 2,.mov (.tmp 29),none⟩])
 .ret)))⟩
def byt (c:UInt8):Data:=.int .u8 c.toNat
def fr (m p n:Int) (bs:List UInt8):Data:=.agg [.int .i64 m,.int .i64 p,.int .i64 n,.slice 1 (bs.map byt)]
theorem c90:CallDet Tryz.prog 129 [] [.agg [.fn (.func 130) [],.int .i64 0,.fn (.func 131) [],.fn (.func 132) [],.int .i64 1,.fn (.func 133) [],.fn (.func 134) [],.int .i64 0,.fn (.func 135) []]]:=by
 refine call_of_vc (x:=ir90) (by kernel_rfl) rfl ?_
 exact rfl
theorem c125 (m p n:Int) (bs:List UInt8):CallDet Tryz.prog 130 [.d (fr m p n bs)] [.int .i64 m]:=by
 refine call_of_vc (x:=ir125) (by kernel_rfl) rfl ?_
 exact rfl
theorem c126 (m p n:Int) (bs:List UInt8):CallDet Tryz.prog 131 [.d (fr m p n bs)] [.int .i64 255]:=by
 refine call_of_vc (x:=ir126) (by kernel_rfl) rfl ?_
 exact rfl
theorem c127 (m p n:Int) (bs:List UInt8):CallDet Tryz.prog 132 [.d (fr m p n bs)] [.int .i64 n]:=by
 refine call_of_vc (x:=ir127) (by kernel_rfl) rfl ?_
 exact rfl
theorem c128 (m p n:Int) (bs:List UInt8):CallDet Tryz.prog 133 [.d (fr m p n bs)] [.int .i64 64]:=by
 refine call_of_vc (x:=ir128) (by kernel_rfl) rfl ?_
 exact rfl
theorem c129 (m p n:Int) (bs:List UInt8):CallDet Tryz.prog 134 [.d (fr m p n bs)] [.int .i64 p]:=by
 refine call_of_vc (x:=ir129) (by kernel_rfl) rfl ?_
 exact rfl
theorem c130 (m p n:Int) (bs:List UInt8) (hn:-9223372036854775807≤n∧n≤9223372036854775807):CallDet Tryz.prog 135 [.d (fr m p n bs)] [.int .i64 (n - 1)]:=by
 refine call_of_vc (x:=ir130) (by kernel_rfl) rfl ?_
 refine ar_sub (by omega) ?_
 exact rfl
def within3 (x lo hi:Int):Int:=bif decide (x < lo)||decide (hi < x) then 3 else 0
def checkFrame (m p n:Int) (len:Nat):Int :=
 bif within3 m 0 255 != 0 then 3 else bif within3 n 1 64 != 0 then 3 else bif within3 p 0 (n - 1) != 0 then 3 else bif decide ((12:Int) < len) then 5 else 0
def limD:Data:=.agg [.fn (.func 130) [],.int .i64 0,.fn (.func 131) [],.fn (.func 132) [],.int .i64 1,.fn (.func 133) [],.fn (.func 134) [],.int .i64 0,.fn (.func 135) []]
theorem within3_or (x lo hi:Int):within3 x lo hi=0∨within3 x lo hi=3:=by
 unfold within3
 cases decide (x < lo)||decide (hi < x) <;> simp
theorem within3_zero {x lo hi:Int} (h:within3 x lo hi=0):lo≤x∧x≤hi:=by
 unfold within3 at h
 cases h1:decide (x < lo) <;> cases h2:decide (hi < x) <;> rw [h1,h2] at h <;> simp at h h1 h2
 omega
theorem c30 (m p n:Int) (bs:List UInt8):CallDet Tryz.prog 121 [.d (fr m p n bs)] [.int .i64 (checkFrame m p n bs.length)]:=by
 refine call_of_vc (x:=ir30) (by kernel_rfl) rfl ?_
 refine ca c90 ?_
 refine loop_st (fun k:Nat=>⟨[(1,.ptr 0 0),(6,.d limD),(7,.d (.int .i64 k))],[.cbox [.int .i64 m,.int .i64 p,.int .i64 n,.slice 1 (bs.map byt)],.none]⟩)
  (fun k=>k≤3∧(0 < k→within3 m 0 255=0)∧(1 < k→within3 n 1 64=0)∧(2 < k→within3 p 0 (n - 1)=0)) (fun k=>3 - k) 0 rfl ⟨by omega,by omega,by omega,by omega⟩ ?_
 rintro k ⟨hk,h0,h1,h2⟩
 rcases k with _ | _ | _ | _ | k
 ·refine sd ?_
  refine And.intro ⟨by decide,by decide⟩ ?_
  refine ca (c125 m p n bs) ?_
  refine ca (c126 m p n bs) ?_
  refine ca (c82 _ _ _) ?_
  refine sd ?_
  refine b_intro ?_ ?_
  ·intro h
   have h:(within3 m 0 255 != 0)=true:=h
   have e:checkFrame m p n bs.length=within3 m 0 255:=by
    rcases within3_or m 0 255 with e | e <;> rw [e] at h <;> simp [checkFrame,e] at h ⊢
   rw [e]
   exact rfl
  ·intro h
   have h:(within3 m 0 255 != 0)=false:=h
   refine ar_add (by omega) ?_
   exact ⟨1,⟨⟨by omega,fun _=>by simpa using h,by omega,by omega⟩,by omega⟩,rfl⟩
 ·refine sd ?_
  refine And.intro ⟨by decide,by decide⟩ ?_
  refine ca (c127 m p n bs) ?_
  refine ca (c128 m p n bs) ?_
  refine ca (c82 _ _ _) ?_
  refine sd ?_
  refine b_intro ?_ ?_
  ·intro h
   have h:(within3 n 1 64 != 0)=true:=h
   have e:checkFrame m p n bs.length=within3 n 1 64:=by
    rcases within3_or n 1 64 with e | e <;> rw [e] at h <;> simp [checkFrame,e,h0] at h ⊢
   rw [e]
   exact rfl
  ·intro h
   have h:(within3 n 1 64 != 0)=false:=h
   refine ar_add (by omega) ?_
   exact ⟨2,⟨⟨by omega,fun _=>h0 (by omega),fun _=>by simpa using h,by omega⟩,by omega⟩,rfl⟩
 ·refine sd ?_
  refine And.intro ⟨by decide,by decide⟩ ?_
  refine ca (c129 m p n bs) ?_
  refine ca (c130 m p n bs (by have:=within3_zero (h1 (by omega)); omega)) ?_
  refine ca (c82 _ _ _) ?_
  refine sd ?_
  refine b_intro ?_ ?_
  ·intro h
   have h:(within3 p 0 (n - 1) != 0)=true:=h
   have e:checkFrame m p n bs.length=within3 p 0 (n - 1):=by
    rcases within3_or p 0 (n - 1) with e | e <;> rw [e] at h <;> simp [checkFrame,e,h0,h1] at h ⊢
   rw [e]
   exact rfl
  ·intro h
   have h:(within3 p 0 (n - 1) != 0)=false:=h
   refine ar_add (by omega) ?_
   exact ⟨3,⟨⟨by omega,fun _=>h0 (by omega),fun _=>h1 (by omega),fun _=>by simpa using h⟩,by omega⟩,rfl⟩
 ·refine sd ?_
  refine sd ?_
  refine ca (c83 _ _) ?_
  have e:checkFrame m p n bs.length=bif decide ((12:Int) < (bs.map byt).length) then 5 else 0:=by
   simp [checkFrame,h0,h1,h2]
  rw [e]
  exact rfl
 ·omega
end Vc.L
set_option maxRecDepth 10000
namespace Vc.L
open Go Go.Proofs
def ir124:AFun:=⟨22,3,[.tmp 4],
 (.seq
 (.reg [] [⟨some 4,.mov (.cst (.nils 1)),none⟩])
 (.seq
 (.reg [] [⟨some 5,.mov (.cst (.nils 1)),none⟩])
 (.seq
 (.seq
 (.reg [] [⟨some 8,.mov (.tmp 0),none⟩,
 ⟨some 9,.len (.tmp 8),none⟩,
 ⟨some 10,.mov (.cst (.d (.int .i64 0))),none⟩])
 (.post [5] [0,1,2]
 (.block 0
 (.asrow 2 33 1 5
 (.keep [1,5,8,9,10] []
 (.loop
 (.post [1,5,8,9,10] [0,1,2]
 (.seq
 (.reg [] [⟨some 11,.cmp .lss (.tmp 10) (.tmp 9),none⟩])
 (.seq
 (.cond (.tmp 11)
 .skip
 (.exit 0))
 (.seq
 (.block 1
 (.seq
 (.reg [0] [⟨some 12,.ixa 4 (.tmp 8) (.tmp 10),none⟩,
 ⟨some 13,.ld true 4 (.tmp 12),none⟩,
 ⟨some 7,.alloc 0 [(.d (.int .i64 0)),(.d (.int .i64 0)),(.d (.int .i64 0)),(.nils 1)],none⟩,
 ⟨none,.st 4 (.tmp 7) (.tmp 13),none⟩])
 (.reg [1,2] [⟨some 14,.mov (.tmp 5),none⟩,
 ⟨some 15,.mov (.tmp 1),none⟩,
 ⟨some 16,.ld true 4 (.tmp 7),none⟩,
 ⟨some 17,.callv (.tmp 15) [(.tmp 16)],none⟩,
 ⟨some 18,.bsl 1 33 1 1 [(.int .i64 0)] [(0,(.tmp 17))],none⟩,
 ⟨some 19,.app 2 33 1 8 (.tmp 14) (.tmp 18),none⟩,
 ⟨some 5,.mov (.tmp 19),none⟩])))
 (.reg [] [⟨some 20,.arith .add .i64 (.tmp 10) (.cst (.d (.int .i64 1))),none⟩,
 ⟨some 10,.mov (.tmp 20),none⟩])))))))))))
 (.seq
 (.reg [] [⟨some 21,.mov (.tmp 5),none⟩,
 ⟨some 4,.mov (.tmp 21),none⟩])
 .ret))))⟩
structure Fr where
 m:Int
 p:Int
 n:Int
 b:List UInt8
def Fr.d (f:Fr):Data:=fr f.m f.p f.n f.b
def frs (l:List Fr):List Data:=l.map Fr.d
theorem take_map_succ {α β:Type} {l:List α} {k:Nat} {x:α} (f:α→β) (h:l[k]?=some x):(l.take (k+1)).map f=(l.take k).map f++[f x]:=by
 rw [List.take_add_one,h]; simp
theorem c124 (l : List Fr) (hl : l.length ≤ 1048576) (f : Nat) (g : Fr → Int) (hg : ∀ x ∈ l, CallDet Tryz.prog f [.d x.d] [.int .i64 (g x)]) :
  CallDet Tryz.prog 120 [.d (.slice 4 (frs l)),.d (.fn (.func f) [])] [.slice 1 (ints (l.map g))]:=by
 refine call_of_vc (x:=ir124) (by kernel_rfl) rfl ?_
 refine loop_st (fun a:Nat × List Data=>⟨[(1,.d (.fn (.func f) [])),(5,.sl 2 a.2.length),(8,.d (.slice 4 (frs l))),(9,.d (.int .i64 (frs l).length)),(10,.d (.int .i64 a.1))],[.none,.none,.row 33 1 a.2 false]⟩)
  (fun a=>a.2=(l.take a.1).map fun x=>.int .i64 (g x)) (fun a=>l.length - a.1) (0,[]) rfl rfl ?_
 rintro ⟨k,acc⟩ hk
 have hlen:(frs l).length=l.length:=by simp [frs]
 refine sd ?_
 refine b_intro ?_ ?_
 ·intro h
  have h:(k:Int) < (frs l).length:=of_decide_eq_true h
  obtain ⟨x,hx⟩:∃ x,l[k]?=some x:=⟨_,List.getElem?_eq_getElem (by omega)⟩
  have hd:(frs l)[(k:Int).toNat]?=some x.d:=by simp [frs,hx]
  have hacc:acc.length=k:=by have:=congrArg List.length hk; simp at this; omega
  refine ix_at hd (by omega) ?_
  refine ca (hg x (List.mem_of_getElem? hx)) ?_
  refine sd ?_
  refine sd ?_
  refine sd ?_
  refine And.intro ⟨rfl,rfl,rfl,?_,?_⟩ ?_
  ·show (acc.length+1) * 8≤2 ^ 47
   omega
  ·show acc.length+1≤2 ^ 47
   omega
  refine ar_add (by omega) ?_
  refine ⟨(k+1,acc++[.int .i64 (g x)]),⟨?_,by show l.length - (k+1) < l.length - k; omega⟩,rfl⟩
  show acc++[.int .i64 (g x)]=(l.take (k+1)).map fun x=>Data.int .i64 (g x)
  rw [take_map_succ _ hx]
  exact congrArg (·++[Data.int .i64 (g x)]) hk
 ·intro h
  have h:¬ (k:Int) < (frs l).length:=of_decide_eq_false h
  refine sd ?_
  have e:ints (l.map g)=acc:=by
   have hk:acc=(l.take k).map fun x=>Data.int .i64 (g x):=hk
   rw [hk,List.take_of_length_le (by omega)]
   simp [ints]
  rw [e]
  exact rfl
def ir85:AFun:=⟨9,0,[.tmp 2],
 (.seq
 (.reg [] [⟨some 2,.mov (.cst (.d (.int .i64 0))),none⟩])
 (.seq
 (.seq
 (.reg [] [⟨some 3,.mov (.tmp 0),none⟩,
 ⟨some 4,.len (.tmp 3),none⟩,
 ⟨some 5,.cmp .gtr (.tmp 4) (.cst (.d (.int .i64 64))),none⟩])
 (.cond (.tmp 5)
 (.seq
 (.reg [] [⟨some 2,.mov (.cst (.d (.int .i64 5))),none⟩])
 .ret)
 .skip))
 (.seq
 (.reg [] [⟨some 6,.mov (.tmp 0),none⟩,
 ⟨some 7,.call 120 [(.tmp 6),(.cst (.d (.fn (.func 121) [])))],none⟩,
 ⟨some 8,.call 46 [(.tmp 7)],none⟩,
 ⟨some 2,.mov (.tmp 8),none⟩])
 .ret)))⟩
def Fr.ok (f:Fr):Prop:=-9223372036854775808≤f.n∧f.n≤9223372036854775807
def Fr.check (f:Fr):Int:=checkFrame f.m f.p f.n f.b.length
def checkFrames (l:List Fr):Int:=bif decide ((64:Int) < (l.length:Int)) then 5 else firstOf (l.map Fr.check)
theorem c85 (l:List Fr) (hl:l.length≤1048576):CallDet Tryz.prog 83 [.d (.slice 4 (frs l))] [.int .i64 (checkFrames l)]:=by
 refine call_of_vc (x:=ir85) (by kernel_rfl) rfl ?_
 have hlen:(frs l).length=l.length:=by simp [frs]
 refine sd ?_
 refine b_intro ?_ ?_
 ·intro h
  have h:decide ((64:Int) < ((frs l).length:Int))=true:=h
  rw [checkFrames,← hlen,h]
  exact rfl
 ·intro h
  have h:decide ((64:Int) < ((frs l).length:Int))=false:=h
  refine ca (c124 l hl 121 Fr.check fun f _=>c30 _ _ _ _) ?_
  refine ca (c81 _ (by simp; omega)) ?_
  rw [checkFrames,← hlen,h]
  exact rfl
end Vc.L
set_option maxRecDepth 10000
namespace Vc.L
open Go Go.Proofs
def ir87:AFun:=⟨8,2,[.tmp 2],
 (.seq
 (.reg [] [⟨some 2,.mov (.cst (.nils 1)),none⟩])
 (.seq
 (.seq
 (.reg [] [⟨some 3,.mov (.tmp 0),none⟩,
 ⟨some 4,.isnil false (.tmp 3),none⟩])
 (.cond (.tmp 4)
 (.seq
 (.reg [] [⟨some 2,.mov (.cst (.nils 1)),none⟩])
 .ret)
 .skip))
 (.seq
 (.reg [0,1] [⟨some 5,.bsl 0 5 1 0 [] [],none⟩,
 ⟨some 6,.mov (.tmp 0),none⟩,
 ⟨some 7,.app 1 5 1 1 (.tmp 5) (.tmp 6),none⟩,
 ⟨some 2,.mov (.tmp 7),none⟩])
 .ret)))⟩
def ir84:AFun:=⟨8,2,[.cell 2 4 true],
 (.seq
 (.reg [0,1] [⟨some 1,.box 0 4 (.tmp 0),none⟩,
 ⟨some 2,.alloc 1 [(.d (.int .i64 0)),(.d (.int .i64 0)),(.d (.int .i64 0)),(.nils 1)],none⟩])
 (.seq
 (.reg [] [⟨some 3,.fad 3 (.tmp 1),none⟩,
 ⟨some 4,.ld false 1 (.tmp 3),none⟩,
 ⟨some 5,.call 109 [(.tmp 4)],none⟩,
 ⟨some 6,.fad 3 (.tmp 1),none⟩,
 ⟨none,.st 1 (.tmp 6) (.tmp 5),none⟩])
 (.seq
 (.reg [] [⟨some 7,.ld true 4 (.tmp 1),none⟩,
 ⟨none,.st 4 (.tmp 2) (.tmp 7),none⟩])
 .ret)))⟩
theorem c87 (b:List Data) (hl:b.length≤1048576):CallDet Tryz.prog 109 [.d (.slice 1 b)] [.slice 1 b]:=by
 refine call_of_vc (x:=ir87) (by kernel_rfl) rfl ?_
 refine an ?_ ?_
 ·intro h
  subst h
  exact rfl
 ·refine sd ?_
  refine sd ?_
  refine And.intro ⟨rfl,rfl,rfl,?_,?_⟩ ?_
  ·show (0+b.length) * 1≤2 ^ 47
   omega
  ·show 0+b.length≤2 ^ 47
   omega
  refine an ?_ ?_
  ·rfl
  ·exact rfl
theorem c84 (f:Fr) (hl:f.b.length≤1048576):CallDet Tryz.prog 70 [.d f.d] [f.d]:=by
 refine call_of_vc (x:=ir84) (by kernel_rfl) rfl ?_
 refine ca (c87 (f.b.map byt) (by simpa using hl)) ?_
 exact rfl
def ir133:AFun:=⟨22,3,[.tmp 4],
 (.seq
 (.reg [] [⟨some 4,.mov (.cst (.nils 4)),none⟩])
 (.seq
 (.reg [] [⟨some 5,.mov (.cst (.nils 4)),none⟩])
 (.seq
 (.seq
 (.reg [] [⟨some 8,.mov (.tmp 0),none⟩,
 ⟨some 9,.len (.tmp 8),none⟩,
 ⟨some 10,.mov (.cst (.d (.int .i64 0))),none⟩])
 (.post [5] [0,1,2]
 (.block 0
 (.asrow 2 140 4 5
 (.keep [1,5,8,9,10] []
 (.loop
 (.post [1,5,8,9,10] [0,1,2]
 (.seq
 (.reg [] [⟨some 11,.cmp .lss (.tmp 10) (.tmp 9),none⟩])
 (.seq
 (.cond (.tmp 11)
 .skip
 (.exit 0))
 (.seq
 (.block 1
 (.seq
 (.reg [0] [⟨some 12,.ixa 4 (.tmp 8) (.tmp 10),none⟩,
 ⟨some 13,.ld true 4 (.tmp 12),none⟩,
 ⟨some 7,.alloc 0 [(.d (.int .i64 0)),(.d (.int .i64 0)),(.d (.int .i64 0)),(.nils 1)],none⟩,
 ⟨none,.st 4 (.tmp 7) (.tmp 13),none⟩])
 (.reg [1,2] [⟨some 14,.mov (.tmp 5),none⟩,
 ⟨some 15,.mov (.tmp 1),none⟩,
 ⟨some 16,.ld true 4 (.tmp 7),none⟩,
 ⟨some 17,.callv (.tmp 15) [(.tmp 16)],none⟩,
 ⟨some 18,.bsl 1 140 4 1 [(.agg [(.int .i64 0),(.int .i64 0),(.int .i64 0),(.slice 1 [])])] [(0,(.tmp 17))],none⟩,
 ⟨some 19,.app 2 140 4 48 (.tmp 14) (.tmp 18),none⟩,
 ⟨some 5,.mov (.tmp 19),none⟩])))
 (.reg [] [⟨some 20,.arith .add .i64 (.tmp 10) (.cst (.d (.int .i64 1))),none⟩,
 ⟨some 10,.mov (.tmp 20),none⟩])))))))))))
 (.seq
 (.reg [] [⟨some 21,.mov (.tmp 5),none⟩,
 ⟨some 4,.mov (.tmp 21),none⟩])
 .ret))))⟩
def ir98:AFun:=⟨12,1,[.tmp 2],
 (.seq
 (.reg [] [⟨some 2,.mov (.cst (.nils 4)),none⟩])
 (.seq
 (.reg [0] [⟨some 4,.mov (.tmp 0),none⟩,
 ⟨some 5,.len (.tmp 4),none⟩,
 ⟨some 6,.msl 0 140 4 48 (.agg [(.int .i64 0),(.int .i64 0),(.int .i64 0),(.slice 1 [])]) (.tmp 5),none⟩,
 ⟨some 3,.mov (.tmp 6),none⟩])
 (.seq
 (.reg [] [⟨some 7,.mov (.tmp 3),none⟩,
 ⟨some 8,.mov (.tmp 0),none⟩,
 ⟨some 9,.copy 4 (.tmp 7) (.tmp 8),none⟩])
 (.seq
 (.reg [] [⟨some 10,.mov (.tmp 3),none⟩,
 ⟨some 11,.call 116 [(.tmp 10),(.cst (.d (.fn (.func 70) [])))],none⟩,
 ⟨some 2,.mov (.tmp 11),none⟩])
 .ret))))⟩
theorem c133 (l : List Fr) (hl : l.length ≤ 1048576) (f : Nat) (g : Fr → Fr) (hg : ∀ x ∈ l, CallDet Tryz.prog f [.d x.d] [(g x).d]) :
  CallDet Tryz.prog 116 [.d (.slice 4 (frs l)),.d (.fn (.func f) [])] [.slice 4 (frs (l.map g))]:=by
 refine call_of_vc (x:=ir133) (by kernel_rfl) rfl ?_
 refine loop_st (fun a:Nat × List Data=>⟨[(1,.d (.fn (.func f) [])),(5,.sl 2 a.2.length),(8,.d (.slice 4 (frs l))),(9,.d (.int .i64 (frs l).length)),(10,.d (.int .i64 a.1))],[.none,.none,.row 140 4 a.2 false]⟩)
  (fun a=>a.2=(l.take a.1).map fun x=>(g x).d) (fun a=>l.length - a.1) (0,[]) rfl rfl ?_
 rintro ⟨k,acc⟩ hk
 have hlen:(frs l).length=l.length:=by simp [frs]
 refine sd ?_
 refine b_intro ?_ ?_
 ·intro h
  have h:(k:Int) < (frs l).length:=of_decide_eq_true h
  obtain ⟨x,hx⟩:∃ x,l[k]?=some x:=⟨_,List.getElem?_eq_getElem (by omega)⟩
  have hd:(frs l)[(k:Int).toNat]?=some x.d:=by simp [frs,hx]
  have hacc:acc.length=k:=by have:=congrArg List.length hk; simp at this; omega
  refine ix_at hd (by omega) ?_
  refine ca (hg x (List.mem_of_getElem? hx)) ?_
  refine sd ?_
  refine sd ?_
  refine sd ?_
  refine And.intro ⟨rfl,rfl,rfl,?_,?_⟩ ?_
  ·show (acc.length+1) * 48≤2 ^ 47
   omega
  ·show acc.length+1≤2 ^ 47
   omega
  refine ar_add (by omega) ?_
  refine ⟨(k+1,acc++[(g x).d]),⟨?_,by show l.length - (k+1) < l.length - k; omega⟩,rfl⟩
  show acc++[(g x).d]=(l.take (k+1)).map fun x=>(g x).d
  rw [take_map_succ _ hx]
  exact congrArg (·++[(g x).d]) hk
 ·intro h
  have h:¬ (k:Int) < (frs l).length:=of_decide_eq_false h
  refine sd ?_
  have e:frs (l.map g)=acc:=by
   have hk:acc=(l.take k).map fun x=>(g x).d:=hk
   rw [hk,List.take_of_length_le (by omega)]
   simp [frs]
  rw [e]
  exact rfl
theorem c98 (l:List Fr) (hl:l.length≤1048576) (hb:∀ f∈l,f.b.length≤1048576):CallDet Tryz.prog 75 [.d (.slice 4 (frs l))] [.slice 4 (frs l)]:=by
 refine call_of_vc (x:=ir98) (by kernel_rfl) rfl ?_
 have hlen:(frs l).length=l.length:=by simp [frs]
 refine And.intro ⟨by omega,?_,?_⟩ ?_
 ·show ((frs l).length:Int) * 48≤2 ^ 47
  omega
 ·show ((frs l).length:Int)≤2 ^ 47
  omega
 refine Exists.intro _ (And.intro ⟨rfl,rfl,List.length_replicate,rfl⟩ ?_)
 have e:(frs l).take ((frs l).length:Int).toNat++(List.replicate ((frs l).length:Int).toNat (Data.agg [.int .i64 0,.int .i64 0,.int .i64 0,.slice 1 []])).drop (frs l).length=frs l:=by
  simp
 refine an ?_ ?_
 ·show ((frs l).take ((frs l).length:Int).toNat++(List.replicate ((frs l).length:Int).toNat (Data.agg [.int .i64 0,.int .i64 0,.int .i64 0,.slice 1 []])).drop (frs l).length).length=((frs l).length:Int).toNat
  rw [e]; simp
 refine Exists.intro [.slice 4 (frs (l.map id))] (And.intro ?_ ?_)
 ·show CallDet Tryz.prog 116 [.d (.slice 4 ((frs l).take ((frs l).length:Int).toNat++(List.replicate ((frs l).length:Int).toNat (Data.agg [.int .i64 0,.int .i64 0,.int .i64 0,.slice 1 []])).drop (frs l).length)),.d (.fn (.func 70) [])] _
  rw [e]
  exact c133 l hl 70 id fun x hx=>c84 x (hb x hx)
 ·rw [List.map_id]
  exact rfl
end Vc.L
set_option maxRecDepth 10000
namespace Vc.L
open Go Go.Proofs
def ir66:AFun:=⟨7,0,[.tmp 4],
 (.seq
 (.reg [] [⟨some 4,.mov (.cst (.d (.int .i64 0))),none⟩])
 (.seq
 (.seq
 (.reg [] [⟨some 5,.mov (.tmp 0),none⟩])
 (.cond (.tmp 5)
 (.seq
 (.reg [] [⟨some 6,.mov (.tmp 1),none⟩,
 ⟨some 4,.mov (.tmp 6),none⟩])
 .ret)
 .skip))
 (.seq
 (.reg [] [⟨some 4,.mov (.cst (.d (.int .i64 0))),none⟩])
 .ret)))⟩
def ir62:AFun:=⟨16,0,[.tmp 6],
 (.seq
 (.reg [] [⟨some 6,.mov (.cst (.d (.int .i64 0))),none⟩])
 (.seq
 (.reg [] [⟨some 7,.mov (.tmp 0),none⟩,
 ⟨some 8,.mov (.tmp 1),none⟩,
 ⟨some 9,.cmp .lss (.tmp 7) (.tmp 8),none⟩,
 ⟨some 10,.mov (.tmp 9),none⟩,
 ⟨some 11,.mov (.tmp 0),some (10,false)⟩,
 ⟨some 12,.mov (.tmp 2),some (10,false)⟩,
 ⟨some 13,.cmp .gtr (.tmp 11) (.tmp 12),some (10,false)⟩,
 ⟨some 14,.pick (.tmp 10) (.cst (.d (.bool true))) (.tmp 13),none⟩,
 ⟨some 15,.call 42 [(.tmp 14),(.cst (.d (.int .i64 3)))],none⟩,
 ⟨some 6,.mov (.tmp 15),none⟩])
 .ret))⟩
def ir28:AFun:=⟨22,2,[.tmp 2],
 (.seq
 (.reg [0] [⟨some 1,.cbx 0 4 (.tmp 0),none⟩,
 ⟨some 2,.mov (.cst (.d (.int .i64 0))),none⟩])
 (.seq
 (.regd [1] [⟨some 3,.fad 0 (.tmp 1),none⟩,
 ⟨some 4,.ld false 1 (.tmp 3),none⟩,
 ⟨some 5,.call 41 [(.tmp 4),(.cst (.d (.int .i64 0))),(.cst (.d (.int .i64 255)))],none⟩,
 ⟨some 6,.fad 2 (.tmp 1),none⟩,
 ⟨some 7,.ld false 1 (.tmp 6),none⟩,
 ⟨some 8,.call 41 [(.tmp 7),(.cst (.d (.int .i64 1))),(.cst (.d (.int .i64 64)))],none⟩,
 ⟨some 9,.fad 1 (.tmp 1),none⟩,
 ⟨some 10,.ld false 1 (.tmp 9),none⟩,
 ⟨some 11,.fad 2 (.tmp 1),none⟩,
 ⟨some 12,.ld false 1 (.tmp 11),none⟩,
 ⟨some 13,.arith .sub .i64 (.tmp 12) (.cst (.d (.int .i64 1))),none⟩,
 ⟨some 14,.call 41 [(.tmp 10),(.cst (.d (.int .i64 0))),(.tmp 13)],none⟩,
 ⟨some 15,.fad 3 (.tmp 1),none⟩,
 ⟨some 16,.ld false 1 (.tmp 15),none⟩,
 ⟨some 17,.len (.tmp 16),none⟩,
 ⟨some 18,.cmp .gtr (.tmp 17) (.cst (.d (.int .i64 12))),none⟩,
 ⟨some 19,.call 42 [(.tmp 18),(.cst (.d (.int .i64 5)))],none⟩,
 ⟨some 20,.bsl 1 3 1 4 [(.int .i64 0),(.int .i64 0),(.int .i64 0),(.int .i64 0)] [(0,(.tmp 5)),(1,(.tmp 8)),(2,(.tmp 14)),(3,(.tmp 19))],none⟩,
 ⟨some 21,.call 39 [(.tmp 20)],none⟩,
 ⟨some 2,.mov (.tmp 21),none⟩] [(0,3),(1,3),(2,3),(0,4),(1,4),(2,4),(0,6),(1,6),(2,6),(3,6),(4,6),(5,6),(0,7),(1,7),(2,7),(3,7),(4,7),(5,7),(0,8),(1,8),(2,8),(3,8),(4,8),(5,8),(6,8),(7,8),(0,9),(1,9),(2,9),(3,9),(4,9),(5,9),(6,9),(7,9),(0,10),(1,10),(2,10),(3,10),(4,10),(5,10),(6,10),(7,10),(0,12),(1,12),(2,12),(3,12),(4,12),(5,12),(6,12),(7,12),(8,12),(9,12),(10,12),(11,12),(0,13),(1,13),(2,13),(3,13),(4,13),(5,13),(6,13),(7,13),(8,13),(9,13),(10,13),(11,13),(0,14),(1,14),(2,14),(3,14),(4,14),(5,14),(6,14),(7,14),(8,14),(9,14),(10,14),(11,14),(0,15),(1,15),(2,15),(3,15),(4,15),(5,15),(6,15),(7,15),(8,15),(9,15),(10,15),(11,15)])
 .ret))⟩
theorem c89 (es:List Int) (hl:es.length < 9223372036854775807):CallDet Tryz.prog 39 [.d (.slice 1 (ints es))] [.int .i64 (firstOf es)]:=by
 refine call_of_vc (x:=ir89) (by kernel_rfl) rfl ?_
 refine loop_st (fun k:Nat=>⟨[(0,.d (.slice 1 (ints es))),(3,.d (.int .i64 k))],[]⟩)
  (fun k=>firstOf es=firstOf (es.drop k)) (fun k=>es.length - k) 0 rfl rfl ?_
 intro k hk
 have hlen:(ints es).length=es.length:=by simp [ints]
 refine sd ?_
 refine b_intro ?_ ?_
 ·intro h
  have h:(k:Int) < (ints es).length:=of_decide_eq_true h
  have h1:k < es.length:=by omega
  obtain ⟨e,he⟩:∃ e,es[k]?=some e:=⟨_,List.getElem?_eq_getElem h1⟩
  refine ix_at (ints_get he) (by omega) ?_
  refine sd ?_
  refine b_intro ?_ ?_
  ·intro h2
   have h2:(e != 0)=true:=h2
   refine ix_at (ints_get he) (by omega) ?_
   rw [hk,drop_get he,firstOf,h2]
   exact rfl
  ·intro h2
   have h2:(e != 0)=false:=h2
   refine ar_add (by omega) ?_
   refine ⟨k+1,⟨?_,by omega⟩,rfl⟩
   rw [hk,drop_get he,firstOf,h2]
   rfl
 ·intro h
  have h:¬ ((k:Int) < (ints es).length):=of_decide_eq_false h
  rw [hk,List.drop_eq_nil_of_le (by omega)]
  exact rfl
theorem ar_is {o : BinOp} {a b r : Int} {K : Int → Prop} (h : arithF o .i64 a b = some r) (hK : K r) :
  ∃ r,(IntKind.i64=IntKind.i64∧IntKind.i64=IntKind.i64∧arithF o .i64 a b=some r)∧K r:=⟨r,⟨rfl,rfl,h⟩,hK⟩
theorem sub1_i64 {n:Int} (h:-9223372036854775808≤n∧n≤9223372036854775807):∃ r,arithF .sub .i64 n 1=some r∧(n≠-9223372036854775808→r=n - 1):=by
 by_cases e:n=-9223372036854775808
 ·subst e
  exact ⟨9223372036854775807,rfl,fun h=>absurd rfl h⟩
 ·exact ⟨n - 1,by simp only [arithF,IntWalk.i64_in _ (show -9223372036854775808≤n - 1∧n - 1≤9223372036854775807 by omega)],fun _=>rfl⟩
end Vc.L
set_option maxRecDepth 10000
namespace Vc.L
open Go Go.Proofs
theorem frs_get {l:List Fr} {k:Nat} {x:Fr} (h:l[k]?=some x):(frs l)[(k:Int).toNat]?=some x.d:=by simp [frs,h]
theorem frs_len (l:List Fr):(frs l).length=l.length:=by simp [frs]
end Vc.L
set_option maxRecDepth 10000
namespace Vc.L
open Go Go.Proofs
def ir24:AFun:=⟨10,0,[.tmp 4],
 (.seq
 (.reg [] [⟨some 4,.mov (.cst (.d (.bool false))),none⟩])
 (.seq
 (.reg [] [⟨some 5,.mov (.tmp 0),none⟩,
 ⟨some 6,.b2s (.tmp 5),none⟩,
 ⟨some 7,.mov (.tmp 1),none⟩,
 ⟨some 8,.b2s (.tmp 7),none⟩,
 ⟨some 9,.seq false (.tmp 6) (.tmp 8),none⟩,
 ⟨some 4,.mov (.tmp 9),none⟩])
 .ret))⟩
theorem bytesOf_byt:∀ (b:List UInt8),bytesOf (b.map byt)=some b
 | []=>rfl
 | c::r=>by
  show (match bytesOf (r.map byt) with | some l=>some (UInt8.ofNat ((c.toNat:Nat):Int).toNat::l) | none=>none)=_
  rw [bytesOf_byt r]
  simp
theorem c24 (a b:List UInt8):CallDet Tryz.prog 30 [.d (.slice 1 (a.map byt)),.d (.slice 1 (b.map byt))] [.bool (a==b)]:=by
 refine call_of_vc (x:=ir24) (by kernel_rfl) rfl ?_
 refine Exists.intro [.str a] (And.intro ⟨rfl,a,bytesOf_byt a,rfl⟩ ?_)
 refine Exists.intro [.str b] (And.intro ⟨rfl,b,bytesOf_byt b,rfl⟩ ?_)
 exact rfl
end Vc.L
set_option maxRecDepth 10000
namespace Vc.L
open Go Go.Proofs
def ir25:AFun:=⟨31,2,[.tmp 4],
 (.seq
 (.reg [0,1] [⟨some 2,.cbx 0 4 (.tmp 0),none⟩,
 ⟨some 3,.cbx 1 4 (.tmp 1),none⟩,
 ⟨some 4,.mov (.cst (.d (.bool false))),none⟩])
 (.seq
 (.reg [] [⟨some 5,.fad 0 (.tmp 2),none⟩,
 ⟨some 6,.ld false 1 (.tmp 5),none⟩,
 ⟨some 7,.fad 0 (.tmp 3),none⟩,
 ⟨some 8,.ld false 1 (.tmp 7),none⟩,
 ⟨some 9,.cmp .eql (.tmp 6) (.tmp 8),none⟩,
 ⟨some 10,.mov (.tmp 9),none⟩,
 ⟨some 11,.fad 1 (.tmp 2),some (10,true)⟩,
 ⟨some 12,.ld false 1 (.tmp 11),some (10,true)⟩,
 ⟨some 13,.fad 1 (.tmp 3),some (10,true)⟩,
 ⟨some 14,.ld false 1 (.tmp 13),some (10,true)⟩,
 ⟨some 15,.cmp .eql (.tmp 12) (.tmp 14),some (10,true)⟩,
 ⟨some 16,.pick (.tmp 10) (.tmp 15) (.cst (.d (.bool false))),none⟩,
 ⟨some 17,.mov (.tmp 16),none⟩,
 ⟨some 18,.fad 2 (.tmp 2),some (17,true)⟩,
 ⟨some 19,.ld false 1 (.tmp 18),some (17,true)⟩,
 ⟨some 20,.fad 2 (.tmp 3),some (17,true)⟩,
 ⟨some 21,.ld false 1 (.tmp 20),some (17,true)⟩,
 ⟨some 22,.cmp .eql (.tmp 19) (.tmp 21),some (17,true)⟩,
 ⟨some 23,.pick (.tmp 17) (.tmp 22) (.cst (.d (.bool false))),none⟩,
 ⟨some 24,.mov (.tmp 23),none⟩,
 ⟨some 25,.fad 3 (.tmp 2),some (24,true)⟩,
 ⟨some 26,.ld false 1 (.tmp 25),some (24,true)⟩,
 ⟨some 27,.fad 3 (.tmp 3),some (24,true)⟩,
 ⟨some 28,.ld false 1 (.tmp 27),some (24,true)⟩,
 ⟨some 29,.call 30 [(.tmp 26),(.tmp 28)],some (24,true)⟩,
 ⟨some 30,.pick (.tmp 24) (.tmp 29) (.cst (.d (.bool false))),none⟩,
 ⟨some 4,.mov (.tmp 30),none⟩])
 .ret))⟩
def Fr.same (f g:Fr):Bool:=f.m==g.m&&(f.p==g.p&&(f.n==g.n&&f.b==g.b))
theorem drop_at {α:Type} {es:List α} {k:Nat} {e:α} (h:es[k]?=some e):es.drop k=e::es.drop (k+1):=by
 obtain ⟨h1,rfl⟩:=List.getElem?_eq_some_iff.1 h
 exact List.drop_eq_getElem_cons h1
def sameFrames:List Fr→List Fr→Bool
 | [],[]=>true
 | f::a,g::b=>f.same g&&sameFrames a b
 | _,_=>false
theorem sameFrames_len:∀ {a b:List Fr},a.length≠b.length→sameFrames a b=false
 | [],[],h=>absurd rfl h
 | [],_::_,_=>rfl
 | _::_,[],_=>rfl
 | f::a,g::b,h=>by
  simp only [sameFrames,sameFrames_len (a:=a) (b:=b) (by simpa using h),Bool.and_false]
end Vc.L
set_option maxRecDepth 10000
namespace Vc.L
open Go Go.Proofs
def ir27:AFun:=⟨14,4,[.cell 2 4 true],
 (.seq
 (.reg [0,1] [⟨some 1,.cbx 0 4 (.tmp 0),none⟩,
 ⟨some 2,.alloc 1 [(.d (.int .i64 0)),(.d (.int .i64 0)),(.d (.int .i64 0)),(.nils 1)],none⟩])
 (.seq
 (.regd [2,3] [⟨some 3,.fad 0 (.tmp 1),none⟩,
 ⟨some 4,.ld false 1 (.tmp 3),none⟩,
 ⟨some 5,.fad 1 (.tmp 1),none⟩,
 ⟨some 6,.ld false 1 (.tmp 5),none⟩,
 ⟨some 7,.fad 2 (.tmp 1),none⟩,
 ⟨some 8,.ld false 1 (.tmp 7),none⟩,
 ⟨some 9,.bsl 2 5 1 0 [] [],none⟩,
 ⟨some 10,.fad 3 (.tmp 1),none⟩,
 ⟨some 11,.ld false 1 (.tmp 10),none⟩,
 ⟨some 12,.app 3 5 1 1 (.tmp 9) (.tmp 11),none⟩,
 ⟨some 13,.build [(.d (.int .i64 0)),(.d (.int .i64 0)),(.d (.int .i64 0)),(.nils 1)] [(0,1,(.tmp 4)),(1,1,(.tmp 6)),(2,1,(.tmp 8)),(3,1,(.tmp 12))],none⟩,
 ⟨none,.st 4 (.tmp 2) (.tmp 13),none⟩] [(0,2),(1,2),(0,3),(1,3),(0,4),(1,4),(2,4),(3,4),(0,5),(1,5),(2,5),(3,5),(0,6),(1,6),(2,6),(3,6),(4,6),(5,6),(0,7),(1,7),(2,7),(3,7),(4,7),(5,7),(6,7),(0,8),(1,8),(2,8),(3,8),(4,8),(5,8),(6,8),(0,9),(1,9),(2,9),(3,9),(4,9),(5,9)])
 .ret))⟩
end Vc.L
set_option maxRecDepth 10000
namespace Vc.L
open Go Go.Proofs
def ir17:AFun:=⟨27,1,[.tmp 6],
 (.seq
 (.reg [] [⟨some 6,.mov (.cst (.d (.int .i64 0))),none⟩])
 (.seq
 (.seq
 (.reg [0] [⟨some 8,.mov (.tmp 0),none⟩,
 ⟨some 9,.call 41 [(.tmp 8),(.cst (.d (.int .i64 0))),(.cst (.d (.int .i64 255)))],none⟩,
 ⟨some 10,.mov (.tmp 1),none⟩,
 ⟨some 11,.len (.tmp 10),none⟩,
 ⟨some 12,.cmp .gtr (.tmp 11) (.cst (.d (.int .i64 256))),none⟩,
 ⟨some 13,.call 42 [(.tmp 12),(.cst (.d (.int .i64 5)))],none⟩,
 ⟨some 14,.mov (.tmp 2),none⟩,
 ⟨some 15,.call 41 [(.tmp 14),(.cst (.d (.int .i64 1))),(.cst (.d (.int .i64 12)))],none⟩,
 ⟨some 16,.bsl 0 3 1 3 [(.int .i64 0),(.int .i64 0),(.int .i64 0)] [(0,(.tmp 9)),(1,(.tmp 13)),(2,(.tmp 15))],none⟩,
 ⟨some 17,.call 39 [(.tmp 16)],none⟩,
 ⟨some 7,.mov (.tmp 17),none⟩])
 (.seq
 (.reg [] [⟨some 18,.mov (.tmp 7),none⟩,
 ⟨some 19,.cmp .neq (.tmp 18) (.cst (.d (.int .i64 0))),none⟩])
 (.cond (.tmp 19)
 (.seq
 (.reg [] [⟨some 20,.mov (.tmp 7),none⟩,
 ⟨some 6,.mov (.tmp 20),none⟩])
 .ret)
 .skip)))
 (.seq
 (.reg [] [⟨some 21,.mov (.tmp 1),none⟩,
 ⟨some 22,.len (.tmp 21),none⟩,
 ⟨some 23,.mov (.tmp 2),none⟩,
 ⟨some 24,.arith .mul .i64 (.tmp 23) (.cst (.d (.int .i64 64))),none⟩,
 ⟨some 25,.cmp .gtr (.tmp 22) (.tmp 24),none⟩,
 ⟨some 26,.call 42 [(.tmp 25),(.cst (.d (.int .i64 5)))],none⟩,
 ⟨some 6,.mov (.tmp 26),none⟩])
 .ret)))⟩
def short (l:List Fr):Bool:=(l.all fun f=>decide (f.b.length≤13))&&(decide (l.length≤24)||(l.length==64||l.length==65))
def checkCut (n:Int) (len:Nat) (s:Int):Int :=
 bif within3 n 0 255 != 0 then 3 else bif decide ((256:Int) < len) then 5 else bif within3 s 1 12 != 0 then 3 else bif decide (s * 64 < len) then 5 else 0
def cutHead (n:Int) (len:Nat) (s:Int):Int:=firstOf [within3 n 0 255,bif decide ((256:Int) < len) then 5 else 0,within3 s 1 12]
theorem cutHead_check {n:Int} {len:Nat} {s:Int} (h:(cutHead n len s != 0)=true):checkCut n len s=cutHead n len s:=by
 unfold cutHead checkCut at *
 simp only [firstOf] at *
 rcases within3_or n 0 255 with h1 | h1 <;> rcases within3_or s 1 12 with h3 | h3 <;> cases h4:decide ((256:Int) < (len:Int)) <;> simp [h1,h3,h4] at h ⊢
theorem cutHead_zero {n:Int} {len:Nat} {s:Int} (h:(cutHead n len s != 0)=false):within3 n 0 255=0∧len≤256∧1≤s∧s≤12∧checkCut n len s=bif decide (s * 64 < len) then 5 else 0:=by
 unfold cutHead checkCut at *
 simp only [firstOf] at h
 rcases within3_or n 0 255 with h1 | h1 <;> rcases within3_or s 1 12 with h3 | h3 <;> cases h4:decide ((256:Int) < (len:Int)) <;> simp [h1,h3,h4] at h ⊢
 have:=within3_zero h3
 simp at h4
 omega
end Vc.L
set_option maxRecDepth 10000
namespace Vc.L
open Go Go.Proofs
def ir13:AFun:=⟨63,4,[.tmp 6,.tmp 7],
 (.seq
 (.reg [] [⟨some 6,.mov (.cst (.nils 4)),none⟩,
 ⟨some 7,.mov (.cst (.d (.int .i64 0))),none⟩])
 (.seq
 (.seq
 (.reg [0] [⟨some 13,.mov (.tmp 0),none⟩,
 ⟨some 14,.call 48 [(.tmp 13),(.cst (.d (.int .i64 0))),(.cst (.d (.int .i64 255)))],none⟩,
 ⟨some 15,.mov (.tmp 1),none⟩,
 ⟨some 16,.len (.tmp 15),none⟩,
 ⟨some 17,.cmp .gtr (.tmp 16) (.cst (.d (.int .i64 256))),none⟩,
 ⟨some 18,.call 69 [(.tmp 17),(.cst (.d (.int .i64 5)))],none⟩,
 ⟨some 19,.mov (.tmp 2),none⟩,
 ⟨some 20,.call 48 [(.tmp 19),(.cst (.d (.int .i64 1))),(.cst (.d (.int .i64 12)))],none⟩,
 ⟨some 21,.bsl 0 33 1 3 [(.int .i64 0),(.int .i64 0),(.int .i64 0)] [(0,(.tmp 14)),(1,(.tmp 18)),(2,(.tmp 20))],none⟩,
 ⟨some 22,.call 46 [(.tmp 21)],none⟩,
 ⟨some 8,.mov (.tmp 22),none⟩])
 (.seq
 (.reg [] [⟨some 23,.mov (.tmp 8),none⟩,
 ⟨some 24,.cmp .neq (.tmp 23) (.cst (.d (.int .i64 0))),none⟩])
 (.cond (.tmp 24)
 (.seq
 (.reg [] [⟨some 25,.mov (.tmp 8),none⟩,
 ⟨some 6,.mov (.cst (.nils 4)),none⟩,
 ⟨some 7,.mov (.tmp 25),none⟩])
 .ret)
 .skip)))
 (.seq
 (.reg [] [⟨some 26,.mov (.tmp 1),none⟩,
 ⟨some 27,.len (.tmp 26),none⟩,
 ⟨some 28,.mov (.tmp 2),none⟩,
 ⟨some 29,.arith .add .i64 (.tmp 27) (.tmp 28),none⟩,
 ⟨some 30,.arith .sub .i64 (.tmp 29) (.cst (.d (.int .i64 1))),none⟩,
 ⟨some 31,.mov (.tmp 2),none⟩,
 ⟨some 32,.arith .quo .i64 (.tmp 30) (.tmp 31),none⟩,
 ⟨some 33,.maxi (.cst (.d (.int .i64 1))) (.tmp 32),none⟩,
 ⟨some 9,.mov (.tmp 33),none⟩])
 (.seq
 (.seq
 (.reg [] [⟨some 34,.mov (.tmp 9),none⟩,
 ⟨some 35,.cmp .gtr (.tmp 34) (.cst (.d (.int .i64 64))),none⟩])
 (.cond (.tmp 35)
 (.seq
 (.reg [] [⟨some 6,.mov (.cst (.nils 4)),none⟩,
 ⟨some 7,.mov (.cst (.d (.int .i64 5))),none⟩])
 .ret)
 .skip))
 (.seq
 (.reg [] [⟨some 10,.mov (.cst (.nils 4)),none⟩])
 (.seq
 (.seq
 (.reg [] [⟨some 36,.mov (.tmp 9),none⟩,
 ⟨some 37,.mov (.cst (.d (.int .i64 0))),none⟩])
 (.post [10] [0,1,2,3]
 (.block 0
 (.asrow 3 140 4 10
 (.keep [0,1,2,9,10,36,37] [0]
 (.loop
 (.post [0,1,2,9,10,36,37] [1,2,3]
 (.seq
 (.reg [] [⟨some 38,.cmp .lss (.tmp 37) (.tmp 36),none⟩])
 (.seq
 (.cond (.tmp 38)
 .skip
 (.exit 0))
 (.seq
 (.block 1
 (.seq
 (.reg [] [⟨some 39,.mov (.tmp 37),none⟩,
 ⟨some 11,.mov (.tmp 39),none⟩])
 (.seq
 (.reg [1] [⟨some 40,.mov (.tmp 0),none⟩,
 ⟨some 41,.mov (.tmp 11),none⟩,
 ⟨some 42,.mov (.tmp 9),none⟩,
 ⟨some 43,.mov (.tmp 1),none⟩,
 ⟨some 44,.mov (.tmp 11),none⟩,
 ⟨some 45,.mov (.tmp 2),none⟩,
 ⟨some 46,.arith .mul .i64 (.tmp 44) (.tmp 45),none⟩,
 ⟨some 47,.mov (.tmp 1),none⟩,
 ⟨some 48,.len (.tmp 47),none⟩,
 ⟨some 49,.mov (.tmp 11),none⟩,
 ⟨some 50,.arith .add .i64 (.tmp 49) (.cst (.d (.int .i64 1))),none⟩,
 ⟨some 51,.mov (.tmp 2),none⟩,
 ⟨some 52,.arith .mul .i64 (.tmp 50) (.tmp 51),none⟩,
 ⟨some 53,.mini (.tmp 48) (.tmp 52),none⟩,
 ⟨some 54,.slc 1 (.tmp 43) (some (.tmp 46)) (some (.tmp 53)),none⟩,
 ⟨some 55,.build [(.d (.int .i64 0)),(.d (.int .i64 0)),(.d (.int .i64 0)),(.nils 1)] [(0,1,(.tmp 40)),(1,1,(.tmp 41)),(2,1,(.tmp 42)),(3,1,(.tmp 54))],none⟩,
 ⟨some 12,.alloc 1 [(.d (.int .i64 0)),(.d (.int .i64 0)),(.d (.int .i64 0)),(.nils 1)],none⟩,
 ⟨none,.st 4 (.tmp 12) (.tmp 55),none⟩])
 (.reg [2,3] [⟨some 56,.mov (.tmp 10),none⟩,
 ⟨some 57,.ld true 4 (.tmp 12),none⟩,
 ⟨some 58,.call 70 [(.tmp 57)],none⟩,
 ⟨some 59,.bsl 2 140 4 1 [(.agg [(.int .i64 0),(.int .i64 0),(.int .i64 0),(.slice 1 [])])] [(0,(.tmp 58))],none⟩,
 ⟨some 60,.app 3 140 4 48 (.tmp 56) (.tmp 59),none⟩,
 ⟨some 10,.mov (.tmp 60),none⟩]))))
 (.reg [] [⟨some 61,.arith .add .i64 (.tmp 37) (.cst (.d (.int .i64 1))),none⟩,
 ⟨some 37,.mov (.tmp 61),none⟩])))))))))))
 (.seq
 (.reg [] [⟨some 62,.mov (.tmp 10),none⟩,
 ⟨some 6,.mov (.tmp 62),none⟩,
 ⟨some 7,.mov (.cst (.d (.int .i64 0))),none⟩])
 .ret)))))))⟩
def partsI (len:Nat) (s:Int):Int:=max 1 ((len+s - 1) / s)
def piece (b:List UInt8) (s:Int) (k:Nat):List UInt8:=(b.take (min (b.length:Int) (((k:Int)+1) * s)).toNat).drop ((k:Int) * s).toNat
def cutFr (n:Int) (b:List UInt8) (s:Int) (k:Nat):Fr:=⟨n,k,partsI b.length s,piece b s k⟩
def cutFrs (n:Int) (b:List UInt8) (s:Int):List Fr:=(List.range (partsI b.length s).toNat).map (cutFr n b s)
def pieceD (b:List UInt8) (s:Int) (k:Nat):List Data:=((b.map byt).take (min ((b.map byt).length:Int) (((k:Int)+1) * s)).toNat).drop ((k:Int) * s).toNat
def cutD (n:Int) (b:List UInt8) (s:Int) (k:Nat):Data:=.agg [.int .i64 n,.int .i64 k,.int .i64 (partsI (b.map byt).length s),.slice 1 (pieceD b s k)]
theorem cutD_eq (n:Int) (b:List UInt8) (s:Int) (k:Nat):cutD n b s k=(cutFr n b s k).d:=by
 simp only [cutD,pieceD,List.length_map,← List.map_take,← List.map_drop,cutFr,Fr.d,fr,piece]
theorem parts_pos (len:Nat) (s:Int):1≤partsI len s:=Int.le_max_left ..
theorem parts_le {len:Nat} {s:Int} (hs:1≤s):partsI len s≤len+s:=by
 have:=Int.ediv_le_self s (show 0≤(len:Int)+s - 1 by omega)
 unfold partsI
 omega
theorem parts_mul {len:Nat} {s:Int} {k:Nat} (hs:1≤s) (hk:(k:Int) < partsI len s):0≤(k:Int) * s∧(k:Int) * s≤len:=by
 refine ⟨Int.mul_nonneg (by omega) (by omega),?_⟩
 by_cases h0:k=0
 ·subst h0; simp
 ·have h1:(k:Int)+1≤((len:Int)+s - 1) / s:=by unfold partsI at hk; omega
  have h2:=(Int.le_ediv_iff_mul_le (by omega)).1 h1
  rw [Int.add_mul] at h2
  omega
theorem cut_acc (n:Int) (b:List UInt8) (s:Int) {k:Nat} {acc:List Data} (h:acc=(List.range k).map (cutD n b s)):acc++[cutD n b s k]=(List.range (k+1)).map (cutD n b s):=by
 rw [List.range_succ,List.map_append,h]; rfl
theorem cut_end (n:Int) (b:List UInt8) (s:Int) {k:Nat} {acc:List Data} (h:acc=(List.range k).map (cutD n b s)) (hk:(k:Int)≤partsI b.length s) (h':¬ (k:Int) < partsI b.length s):frs (cutFrs n b s)=acc:=by
 have e:(partsI b.length s).toNat=k:=by omega
 rw [frs,cutFrs,e,h,List.map_map]
 exact List.map_congr_left fun x _=>(cutD_eq n b s x).symm
def cutL (n:Int) (b:List UInt8) (s:Int):List Fr:=bif checkCut n b.length s==0 then cutFrs n b s else []
theorem c84' (f:Fr) (x:Data) (h:x=f.d) (hl:f.b.length≤1048576):CallDet Tryz.prog 70 [.d x] [x]:=h ▸ c84 f hl
theorem many_iff {len:Nat} {s:Int} (hs:1≤s):decide (64 < partsI len s)=decide (s * 64 < len):=by
 have h1:(65:Int)≤((len:Int)+s - 1) / s↔65 * s≤(len:Int)+s - 1:=Int.le_ediv_iff_mul_le (by omega)
 have h2:64 < partsI len s↔s * 64 < len:=by
  have h3:64 < partsI len s↔65≤((len:Int)+s - 1) / s:=by unfold partsI; omega
  rw [h3,h1]
  omega
 simp only [h2]
theorem c13 (n s:Int) (b:List UInt8):CallDet Tryz.prog 25 [.d (.int .i64 n),.d (.slice 1 (b.map byt)),.d (.int .i64 s)] [.slice 4 (frs (cutL n b s)),.int .i64 (checkCut n b.length s)]:=by
 have hlen:(b.map byt).length=b.length:=by simp
 refine call_of_vc (x:=ir13) (by kernel_rfl) rfl ?_
 refine ca (c82 n 0 255) ?_
 refine sd ?_
 refine ca (c83 _ _) ?_
 refine ca (c82 s 1 12) ?_
 refine sd ?_
 refine sd ?_
 refine ca (c81 [within3 n 0 255,bif decide ((256:Int) < (b.map byt).length) then 5 else 0,within3 s 1 12] (by simp)) ?_
 have e:firstOf [within3 n 0 255,bif decide ((256:Int) < (b.map byt).length) then 5 else 0,within3 s 1 12]=cutHead n b.length s:=by rw [hlen]; rfl
 rw [e]
 refine sd ?_
 refine b_intro ?_ ?_
 ·intro h
  have h:(cutHead n b.length s != 0)=true:=h
  have e2:cutL n b s=[]:=by
   rw [cutL,cutHead_check h,show (cutHead n b.length s==0)=false by simpa using h]; rfl
  rw [e2,cutHead_check h]
  exact rfl
 ·intro h
  have h:(cutHead n b.length s != 0)=false:=h
  obtain ⟨h1,h2,h3,h4,h5⟩:=cutHead_zero h
  have hp:=parts_le (len:=b.length) h3
  refine ar_add (by omega) ?_
  refine ar_sub (by omega) ?_
  refine ar_quo (by omega) ?_
  refine sd ?_
  refine sd ?_
  refine b_intro ?_ ?_
  ·intro h6
   have h6:decide (64 < partsI (b.map byt).length s)=true:=h6
   rw [hlen,many_iff h3] at h6
   rw [h6] at h5
   have h5:checkCut n b.length s=5:=h5
   have e2:cutL n b s=[]:=by rw [cutL,h5]; rfl
   rw [e2,h5]
   exact rfl
  ·intro h6
   have h6:decide (64 < partsI (b.map byt).length s)=false:=h6
   rw [hlen,many_iff h3] at h6
   rw [h6] at h5
   have h5:checkCut n b.length s=0:=h5
   have e2:cutL n b s=cutFrs n b s:=by rw [cutL,h5]; rfl
   rw [e2,h5]
   refine loop_st (fun a:Nat × List Data=>⟨[(0,.d (.int .i64 n)),(1,.d (.slice 1 (b.map byt))),(2,.d (.int .i64 s)),(9,.d (.int .i64 (partsI (b.map byt).length s))),(10,.sl 3 a.2.length),(36,.d (.int .i64 (partsI (b.map byt).length s))),(37,.d (.int .i64 a.1))],[.none,.none,.none,.row 140 4 a.2 false]⟩)
    (fun a=>a.2=(List.range a.1).map (cutD n b s)∧(a.1:Int)≤partsI b.length s) (fun a=>(partsI b.length s).toNat - a.1) (0,[]) rfl ⟨rfl,by have:=parts_pos b.length s; show ((0:Nat):Int)≤_; omega⟩ ?_
   rintro ⟨k,acc⟩ ⟨hk,hkp⟩
   have hk:acc=(List.range k).map (cutD n b s):=hk
   have hkp:(k:Int)≤partsI b.length s:=hkp
   have hacc:acc.length=k:=by rw [hk]; simp
   refine sd ?_
   refine b_intro ?_ ?_
   ·intro h
    have h:(k:Int) < partsI (b.map byt).length s:=of_decide_eq_true h
    rw [hlen] at h
    have hm:=parts_mul h3 h
    have hm2:((k:Int)+1) * s=(k:Int) * s+s:=by rw [Int.add_mul]; omega
    have hA:-9223372036854775808≤(k:Int) * s∧(k:Int) * s≤9223372036854775807:=by omega
    have hB:-9223372036854775808≤((k:Int)+1) * s∧((k:Int)+1) * s≤9223372036854775807:=by omega
    have hC:0≤(k:Int) * s∧(k:Int) * s≤min ((b.map byt).length:Int) (((k:Int)+1) * s)∧min ((b.map byt).length:Int) (((k:Int)+1) * s)≤(b.map byt).length:=by omega
    refine ar_mul hA ?_
    refine ar_add (by omega) ?_
    refine ar_mul hB ?_
    refine sd ?_
    refine And.intro ⟨rfl,hC⟩ ?_
    repeat refine sd ?_
    refine ca (c84' (cutFr n b s k) (cutD n b s k) (cutD_eq n b s k) (by simp only [cutFr,piece,List.length_drop,List.length_take]; omega)) ?_
    repeat refine sd ?_
    refine And.intro ⟨rfl,rfl,rfl,?_,?_⟩ ?_
    ·show (acc.length+1) * 48≤2 ^ 47
     omega
    ·show acc.length+1≤2 ^ 47
     omega
    refine ar_add (by omega) ?_
    refine ⟨(k+1,acc++[cutD n b s k]),⟨⟨cut_acc n b s hk,by show ((k+1:Nat):Int)≤_; omega⟩,by show (partsI b.length s).toNat - (k+1) < (partsI b.length s).toNat - k; omega⟩,rfl⟩
   ·intro h
    have h:¬ (k:Int) < partsI (b.map byt).length s:=of_decide_eq_false h
    rw [hlen] at h
    rw [cut_end n b s hk hkp h]
    repeat refine sd ?_
    exact rfl
end Vc.L
set_option maxRecDepth 10000
namespace Vc.L
open Go Go.Proofs
def ir86:AFun:=⟨26,0,[.tmp 4],
 (.seq
 (.reg [] [⟨some 4,.mov (.cst (.d (.bool false))),none⟩])
 (.seq
 (.seq
 (.reg [] [⟨some 6,.mov (.tmp 0),none⟩,
 ⟨some 7,.len (.tmp 6),none⟩,
 ⟨some 8,.mov (.tmp 1),none⟩,
 ⟨some 9,.len (.tmp 8),none⟩,
 ⟨some 10,.cmp .neq (.tmp 7) (.tmp 9),none⟩])
 (.cond (.tmp 10)
 (.seq
 (.reg [] [⟨some 4,.mov (.cst (.d (.bool false))),none⟩])
 .ret)
 .skip))
 (.seq
 (.seq
 (.reg [] [⟨some 11,.mov (.tmp 0),none⟩,
 ⟨some 12,.len (.tmp 11),none⟩,
 ⟨some 13,.mov (.cst (.d (.int .i64 0))),none⟩])
 (.post [] []
 (.block 0
 (.keep [0,1,12,13] []
 (.loop
 (.post [0,1,12,13] []
 (.seq
 (.reg [] [⟨some 14,.cmp .lss (.tmp 13) (.tmp 12),none⟩])
 (.seq
 (.cond (.tmp 14)
 .skip
 (.exit 0))
 (.seq
 (.block 1
 (.seq
 (.reg [] [⟨some 15,.mov (.tmp 13),none⟩,
 ⟨some 5,.mov (.tmp 15),none⟩])
 (.seq
 (.regd [] [⟨some 16,.mov (.tmp 0),none⟩,
 ⟨some 17,.mov (.tmp 5),none⟩,
 ⟨some 18,.ixa 1 (.tmp 16) (.tmp 17),none⟩,
 ⟨some 19,.ld false 1 (.tmp 18),none⟩,
 ⟨some 20,.mov (.tmp 1),none⟩,
 ⟨some 21,.mov (.tmp 5),none⟩,
 ⟨some 22,.ixa 1 (.tmp 20) (.tmp 21),none⟩,
 ⟨some 23,.ld false 1 (.tmp 22),none⟩,
 ⟨some 24,.cmp .neq (.tmp 19) (.tmp 23),none⟩] [(0,1),(0,4),(1,4),(2,4),(3,4),(0,5),(1,5),(2,5),(3,5),(4,5),(0,6),(1,6),(2,6),(3,6),(0,7),(1,7),(2,7),(3,7)])
 (.cond (.tmp 24)
 (.seq
 (.reg [] [⟨some 4,.mov (.cst (.d (.bool false))),none⟩])
 .ret)
 .skip))))
 (.reg [] [⟨some 25,.arith .add .i64 (.tmp 13) (.cst (.d (.int .i64 1))),none⟩,
 ⟨some 13,.mov (.tmp 25),none⟩]))))))))))
 (.seq
 (.reg [] [⟨some 4,.mov (.cst (.d (.bool true))),none⟩])
 .ret))))⟩
def ir88:AFun:=⟨23,3,[.cell 2 16 true],
 (.seq
 (.reg [0,1] [⟨some 1,.cbx 0 4 (.tmp 0),none⟩,
 ⟨some 2,.alloc 1 [(.d (.int .u8 0)),(.d (.int .u8 0)),(.d (.int .u8 0)),(.d (.int .u8 0)),(.d (.int .u8 0)),(.d (.int .u8 0)),(.d (.int .u8 0)),(.d (.int .u8 0)),(.d (.int .u8 0)),(.d (.int .u8 0)),(.d (.int .u8 0)),(.d (.int .u8 0)),(.d (.int .u8 0)),(.d (.int .u8 0)),(.d (.int .u8 0)),(.d (.int .u8 0))],none⟩])
 (.seq
 (.reg [2] [⟨some 4,.fad 0 (.tmp 1),none⟩,
 ⟨some 5,.ld false 1 (.tmp 4),none⟩,
 ⟨some 6,.conv .u8 (.tmp 5),none⟩,
 ⟨some 7,.fad 1 (.tmp 1),none⟩,
 ⟨some 8,.ld false 1 (.tmp 7),none⟩,
 ⟨some 9,.conv .u8 (.tmp 8),none⟩,
 ⟨some 10,.fad 2 (.tmp 1),none⟩,
 ⟨some 11,.ld false 1 (.tmp 10),none⟩,
 ⟨some 12,.conv .u8 (.tmp 11),none⟩,
 ⟨some 13,.fad 3 (.tmp 1),none⟩,
 ⟨some 14,.ld false 1 (.tmp 13),none⟩,
 ⟨some 15,.len (.tmp 14),none⟩,
 ⟨some 16,.conv .u8 (.tmp 15),none⟩,
 ⟨some 17,.build [(.d (.int .u8 0)),(.d (.int .u8 0)),(.d (.int .u8 0)),(.d (.int .u8 0)),(.d (.int .u8 0)),(.d (.int .u8 0)),(.d (.int .u8 0)),(.d (.int .u8 0)),(.d (.int .u8 0)),(.d (.int .u8 0)),(.d (.int .u8 0)),(.d (.int .u8 0)),(.d (.int .u8 0)),(.d (.int .u8 0)),(.d (.int .u8 0)),(.d (.int .u8 0))] [(0,1,(.tmp 6)),(1,1,(.tmp 9)),(2,1,(.tmp 12)),(3,1,(.tmp 16))],none⟩,
 ⟨some 3,.alloc 2 [(.d (.int .u8 0)),(.d (.int .u8 0)),(.d (.int .u8 0)),(.d (.int .u8 0)),(.d (.int .u8 0)),(.d (.int .u8 0)),(.d (.int .u8 0)),(.d (.int .u8 0)),(.d (.int .u8 0)),(.d (.int .u8 0)),(.d (.int .u8 0)),(.d (.int .u8 0)),(.d (.int .u8 0)),(.d (.int .u8 0)),(.d (.int .u8 0)),(.d (.int .u8 0))],none⟩,
 ⟨none,.st 16 (.tmp 3) (.tmp 17),none⟩])
 (.seq
 (.regd [] [⟨some 18,.slv 16 (.tmp 3) (some (.cst (.d (.int .i64 4)))) none,none⟩,
 ⟨some 19,.fad 3 (.tmp 1),none⟩,
 ⟨some 20,.ld false 1 (.tmp 19),none⟩,
 ⟨some 21,.copy 1 (.tmp 18) (.tmp 20),none⟩] [(0,1),(0,2)])
 (.seq
 (.reg [] [⟨some 22,.ld true 16 (.tmp 3),none⟩,
 ⟨none,.st 16 (.tmp 2) (.tmp 22),none⟩])
 .ret))))⟩
def ir29:AFun:=⟨38,3,[.cell 2 16 true],
 (.seq
 (.reg [0,1] [⟨some 1,.cbx 0 4 (.tmp 0),none⟩,
 ⟨some 2,.alloc 1 [(.d (.int .u8 0)),(.d (.int .u8 0)),(.d (.int .u8 0)),(.d (.int .u8 0)),(.d (.int .u8 0)),(.d (.int .u8 0)),(.d (.int .u8 0)),(.d (.int .u8 0)),(.d (.int .u8 0)),(.d (.int .u8 0)),(.d (.int .u8 0)),(.d (.int .u8 0)),(.d (.int .u8 0)),(.d (.int .u8 0)),(.d (.int .u8 0)),(.d (.int .u8 0))],none⟩])
 (.seq
 (.reg [2] [⟨some 3,.alloc 2 [(.d (.int .u8 0)),(.d (.int .u8 0)),(.d (.int .u8 0)),(.d (.int .u8 0)),(.d (.int .u8 0)),(.d (.int .u8 0)),(.d (.int .u8 0)),(.d (.int .u8 0)),(.d (.int .u8 0)),(.d (.int .u8 0)),(.d (.int .u8 0)),(.d (.int .u8 0)),(.d (.int .u8 0)),(.d (.int .u8 0)),(.d (.int .u8 0)),(.d (.int .u8 0))],none⟩])
 (.seq
 (.regd [] [⟨some 5,.fad 0 (.tmp 1),none⟩,
 ⟨some 6,.ld false 1 (.tmp 5),none⟩,
 ⟨some 7,.conv .u8 (.tmp 6),none⟩,
 ⟨some 8,.fad 1 (.tmp 1),none⟩,
 ⟨some 9,.ld false 1 (.tmp 8),none⟩,
 ⟨some 10,.conv .u8 (.tmp 9),none⟩,
 ⟨some 11,.fad 2 (.tmp 1),none⟩,
 ⟨some 12,.ld false 1 (.tmp 11),none⟩,
 ⟨some 13,.conv .u8 (.tmp 12),none⟩,
 ⟨some 14,.fad 3 (.tmp 1),none⟩,
 ⟨some 15,.ld false 1 (.tmp 14),none⟩,
 ⟨some 16,.len (.tmp 15),none⟩,
 ⟨some 17,.conv .u8 (.tmp 16),none⟩,
 ⟨some 18,.ixp 16 1 (.tmp 3) (.cst (.d (.int .i64 0))),none⟩,
 ⟨none,.st 1 (.tmp 18) (.tmp 7),none⟩,
 ⟨some 19,.ixp 16 1 (.tmp 3) (.cst (.d (.int .i64 1))),none⟩,
 ⟨none,.st 1 (.tmp 19) (.tmp 10),none⟩,
 ⟨some 20,.ixp 16 1 (.tmp 3) (.cst (.d (.int .i64 2))),none⟩,
 ⟨none,.st 1 (.tmp 20) (.tmp 13),none⟩,
 ⟨some 21,.ixp 16 1 (.tmp 3) (.cst (.d (.int .i64 3))),none⟩,
 ⟨none,.st 1 (.tmp 21) (.tmp 17),none⟩] [(0,3),(1,3),(2,3),(0,4),(1,4),(2,4),(0,5),(1,5),(2,5),(0,6),(1,6),(2,6),(3,6),(4,6),(5,6),(0,7),(1,7),(2,7),(3,7),(4,7),(5,7),(0,8),(1,8),(2,8),(3,8),(4,8),(5,8),(0,9),(1,9),(2,9),(3,9),(4,9),(5,9),(6,9),(7,9),(8,9),(0,10),(1,10),(2,10),(3,10),(4,10),(5,10),(6,10),(7,10),(8,10),(0,11),(1,11),(2,11),(3,11),(4,11),(5,11),(6,11),(7,11),(8,11),(0,12),(1,12),(2,12),(3,12),(4,12),(5,12),(6,12),(7,12),(8,12),(3,13),(4,13),(5,13),(6,13),(7,13),(8,13),(9,13),(10,13),(11,13),(12,13),(3,14),(4,14),(5,14),(6,14),(7,14),(8,14),(9,14),(10,14),(11,14),(12,14),(6,15),(7,15),(8,15),(9,15),(10,15),(11,15),(12,15),(6,16),(7,16),(8,16),(9,16),(10,16),(11,16),(12,16),(9,17),(10,17),(11,17),(12,17),(9,18),(10,18),(11,18),(12,18)])
 (.seq
 (.seq
 (.reg [] [⟨some 4,.mov (.cst (.d (.int .i64 0))),none⟩])
 (.post [2,3] [0,1,2]
 (.block 0
 (.keep [1,2,3,4] [0,1,2]
 (.loop
 (.post [1,2,3,4] []
 (.seq
 (.seq
 (.reg [] [⟨some 22,.mov (.tmp 4),none⟩,
 ⟨some 23,.fad 3 (.tmp 1),none⟩,
 ⟨some 24,.ld false 1 (.tmp 23),none⟩,
 ⟨some 25,.len (.tmp 24),none⟩,
 ⟨some 26,.cmp .lss (.tmp 22) (.tmp 25),none⟩])
 (.cond (.tmp 26)
 .skip
 (.exit 0)))
 (.seq
 (.block 1
 (.reg [] [⟨some 29,.mov (.tmp 4),none⟩,
 ⟨some 30,.arith .add .i64 (.cst (.d (.int .i64 4))) (.tmp 29),none⟩,
 ⟨some 31,.fad 3 (.tmp 1),none⟩,
 ⟨some 32,.ld false 1 (.tmp 31),none⟩,
 ⟨some 33,.mov (.tmp 4),none⟩,
 ⟨some 34,.ixa 1 (.tmp 32) (.tmp 33),none⟩,
 ⟨some 35,.ld false 1 (.tmp 34),none⟩,
 ⟨some 36,.ixp 16 1 (.tmp 3) (.tmp 30),none⟩,
 ⟨none,.st 1 (.tmp 36) (.tmp 35),none⟩]))
 (.reg [] [⟨some 27,.mov (.tmp 4),none⟩,
 ⟨some 28,.arith .add .i64 (.tmp 27) (.cst (.d (.int .i64 1))),none⟩,
 ⟨some 4,.mov (.tmp 28),none⟩])))))))))
 (.seq
 (.reg [] [⟨some 37,.ld true 16 (.tmp 3),none⟩,
 ⟨none,.st 16 (.tmp 2) (.tmp 37),none⟩])
 .ret)))))⟩
theorem byt_get {a:List UInt8} {k:Nat} {x:UInt8} (h:a[k]?=some x):(a.map byt)[(k:Int).toNat]?=some (byt x):=by simp [h]
theorem beq_len {a b:List UInt8} (h:a.length≠b.length):(a==b)=false:=by
 simp only [beq_eq_false_iff_ne,ne_eq]
 exact fun e=>h (congrArg _ e)
theorem c86 (a b:List UInt8) (ha:a.length≤1048576):CallDet Tryz.prog 84 [.d (.slice 1 (a.map byt)),.d (.slice 1 (b.map byt))] [.bool (a==b)]:=by
 refine call_of_vc (x:=ir86) (by kernel_rfl) rfl ?_
 have hla:(a.map byt).length=a.length:=by simp
 have hlb:(b.map byt).length=b.length:=by simp
 refine sd ?_
 refine b_intro ?_ ?_
 ·intro h
  have h:(((a.map byt).length:Int) != ((b.map byt).length:Int))=true:=h
  rw [beq_len (a:=a) (b:=b) (by simp at h; omega)]
  exact rfl
 ·intro h
  have h:(((a.map byt).length:Int) != ((b.map byt).length:Int))=false:=h
  have hl:a.length=b.length:=by simp at h; omega
  refine loop_st (fun k:Nat=>⟨[(0,.d (.slice 1 (a.map byt))),(1,.d (.slice 1 (b.map byt))),(12,.d (.int .i64 (a.map byt).length)),(13,.d (.int .i64 k))],[]⟩)
   (fun k=>(a==b)=(a.drop k==b.drop k)) (fun k=>a.length - k) 0 rfl rfl ?_
  intro k hk
  refine sd ?_
  refine b_intro ?_ ?_
  ·intro h
   have h:(k:Int) < (a.map byt).length:=of_decide_eq_true h
   obtain ⟨x,hx⟩:∃ x,a[k]?=some x:=⟨_,List.getElem?_eq_getElem (by omega)⟩
   obtain ⟨y,hy⟩:∃ y,b[k]?=some y:=⟨_,List.getElem?_eq_getElem (by omega)⟩
   refine ix_at (byt_get hx) (by omega) ?_
   refine ix_at (byt_get hy) (by omega) ?_
   refine sd ?_
   refine b_intro ?_ ?_
   ·intro h2
    have h2:(((x.toNat:Nat):Int) != ((y.toNat:Nat):Int))=true:=h2
    have hne:x≠y:=fun e=>by subst e; simp at h2
    have e:(a==b)=false:=by
     rw [hk,drop_at hx,drop_at hy]
     simp [hne]
    rw [e]
    exact rfl
   ·intro h2
    have h2:(((x.toNat:Nat):Int) != ((y.toNat:Nat):Int))=false:=h2
    have he:x=y:=by simp at h2; exact UInt8.toNat_inj.1 (by omega)
    refine ar_add (by omega) ?_
    refine ⟨k+1,⟨?_,by omega⟩,rfl⟩
    rw [hk,drop_at hx,drop_at hy]
    simp [he]
  ·intro h
   have h:¬ ((k:Int) < (a.map byt).length):=of_decide_eq_false h
   have e:(a==b)=true:=by
    rw [hk,List.drop_eq_nil_of_le (by omega),List.drop_eq_nil_of_le (by omega)]
    rfl
   rw [e]
   exact rfl
theorem check_zero {m p n:Int} {len:Nat} (h:checkFrame m p n len=0):(0≤m∧m≤255)∧(1≤n∧n≤64)∧(0≤p∧p≤n - 1)∧len≤12:=by
 unfold checkFrame at h
 rcases within3_or m 0 255 with h1 | h1 <;> rcases within3_or n 1 64 with h2 | h2 <;> rcases within3_or p 0 (n - 1) with h3 | h3 <;> cases h4:decide ((12:Int) < (len:Int)) <;> simp [h1,h2,h3,h4] at h
 simp at h4
 exact ⟨within3_zero h1,within3_zero h2,within3_zero h3,by omega⟩
end Vc.L
set_option maxRecDepth 10000
namespace Vc.L
open Go Go.Proofs
end Vc.L
namespace Vc.L
open Go Go.Proofs
def clash (x y:Fr):Bool:=x.m != y.m||(x.n != y.n||(x.p==y.p&&!(x.b==y.b)))
theorem clash_iff {x y:Fr}:clash x y=false↔x.m=y.m∧x.n=y.n∧(x.p=y.p→x.b=y.b):=by
 simp [clash]
def clean (t:List Fr):Prop:=∀ x∈t,∀ y∈t,clash x y=false
theorem clean_nil:clean []:=fun _ hx=>absurd hx List.not_mem_nil
theorem clash_refl (x:Fr):clash x x=false:=clash_iff.2 ⟨rfl,rfl,fun _=>rfl⟩
theorem clash_symm {x y:Fr} (h:clash x y=false):clash y x=false:=by
 obtain ⟨h1,h2,h3⟩:=clash_iff.1 h
 exact clash_iff.2 ⟨h1.symm,h2.symm,fun e=>(h3 e.symm).symm⟩
theorem take_one {α:Type} {l:List α} {k:Nat} {x:α} (h:l[k]?=some x):l.take (k+1)=l.take k++[x]:=by
 rw [List.take_add_one,h]; rfl
theorem clean_snoc {t:List Fr} {x:Fr} (h:clean t) (hx:∀ y∈t,clash x y=false):clean (t++[x]):=by
 intro a ha b hb
 rcases List.mem_append.1 ha with h1 | h1 <;> rcases List.mem_append.1 hb with h2 | h2
 ·exact h a h1 b h2
 ·rw [List.mem_singleton.1 h2]; exact clash_symm (hx a h1)
 ·rw [List.mem_singleton.1 h1]; exact hx b h2
 ·rw [List.mem_singleton.1 h1,List.mem_singleton.1 h2]; exact clash_refl _
theorem mem_take_get {α:Type} {l:List α} {k:Nat} {y:α} (h:y∈l.take k):∃ j,j < k∧l[j]?=some y:=by
 obtain ⟨j,hj⟩:=List.getElem?_of_mem h
 rw [List.getElem?_take] at hj
 by_cases e:j < k
 ·rw [if_pos e] at hj; exact ⟨j,e,hj⟩
 ·rw [if_neg e] at hj; cases hj
theorem mem_take {α:Type} {l:List α} {k j:Nat} {y:α} (h:l[j]?=some y) (hj:j < k):y∈l.take k :=
 List.mem_of_getElem? (i:=j) (by rw [List.getElem?_take,if_pos hj]; exact h)
def findP (l:List Fr) (q:Int):Option Fr:=l.find? fun f=>f.p==q
def joinUpto (l:List Fr):Nat→Option (List UInt8)
 | 0=>some []
 | q+1=>match joinUpto l q,findP l q with
  | some a,some f=>some (a++f.b)
  | _,_=>none
theorem joinUpto_none {l:List Fr} {q:Nat} (h:findP l q=none):∀ {n:Nat},q < n→joinUpto l n=none
 | 0,hn=>absurd hn (by omega)
 | n+1,hn=>by
  by_cases e:q=n
  ·subst e
   simp only [joinUpto,h]
   cases joinUpto l q <;> rfl
  ·simp only [joinUpto,joinUpto_none h (show q < n by omega)]
open Classical in
noncomputable def joinR (l:List Fr):List UInt8 × Int:=match l with
 | []=>([],12)
 | f::_=>if clean l then (match joinUpto l f.n.toNat with | some a=>(a,0) | none=>([],16)) else ([],24)
theorem joinR_clash {l:List Fr} (h:¬ clean l):joinR l=([],24):=by
 cases l with
 | nil=>exact absurd clean_nil h
 | cons f r=>simp only [joinR,if_neg h]
theorem joinR_some {l:List Fr} {f:Fr} {a:List UInt8} (hf:l[0]?=some f) (h:clean l) (ha:joinUpto l f.n.toNat=some a):joinR l=(a,0):=by
 cases l with
 | nil=>cases hf
 | cons g r=>cases hf; simp only [joinR,if_pos h,ha]
theorem joinR_none {l:List Fr} {f:Fr} (hf:l[0]?=some f) (h:clean l) (ha:joinUpto l f.n.toNat=none):joinR l=([],16):=by
 cases l with
 | nil=>cases hf
 | cons g r=>cases hf; simp only [joinR,if_pos h,ha]
def lastP (t:List Fr) (q:Int):Option Fr:=t.reverse.find? fun f=>f.p==q
theorem lastP_snoc (t:List Fr) (f:Fr) (q:Int):lastP (t++[f]) q=if f.p=q then some f else lastP t q:=by
 rw [lastP,List.reverse_append]
 simp only [List.reverse_cons,List.reverse_nil,List.nil_append,List.cons_append,List.find?_cons]
 by_cases e:f.p=q
 ·simp [e]
 ·rw [show (f.p==q)=false by simpa using e,if_neg e]; rfl
theorem lastP_mem {t:List Fr} {q:Int} {f:Fr} (h:lastP t q=some f):f∈t∧f.p=q :=
 ⟨List.mem_reverse.1 (List.mem_of_find?_eq_some h),by simpa using List.find?_some h⟩
theorem lastP_none {t:List Fr} {q:Int} (h:lastP t q=none):∀ y∈t,y.p≠q:=fun y hy=>by
 have:=List.find?_eq_none.1 h y (List.mem_reverse.2 hy)
 simpa using this
theorem findP_mem {t:List Fr} {q:Int} {f:Fr} (h:findP t q=some f):f∈t∧f.p=q :=
 ⟨List.mem_of_find?_eq_some h,by simpa using List.find?_some h⟩
theorem findP_none {t:List Fr} {q:Int} (h:findP t q=none):∀ y∈t,y.p≠q:=fun y hy=>by
 have:=List.find?_eq_none.1 h y hy
 simpa using this
theorem last_find {t:List Fr} (h:clean t) (q:Int):(lastP t q).map Fr.b=(findP t q).map Fr.b:=by
 cases h1:lastP t q with
 | none =>
  cases h2:findP t q with
  | none=>rfl
  | some g=>exact absurd (findP_mem h2).2 (lastP_none h1 g (findP_mem h2).1)
 | some f =>
  obtain ⟨f1,f2⟩:=lastP_mem h1
  cases h2:findP t q with
  | none=>exact absurd f2 (findP_none h2 f f1)
  | some g =>
   obtain ⟨g1,g2⟩:=findP_mem h2
   exact congrArg some ((clash_iff.1 (h f f1 g g1)).2.2 (f2.trans g2.symm))
theorem keys_put {p:Int} {v:Data}:∀ {es:List (Data × Data)},keysOk (some .i64) es=true→keysOk (some .i64) (putM (.int .i64 p) v es)=true
 | [],_=>rfl
 | (k,w)::r,h=>by
  simp only [keysOk,Bool.and_eq_true] at h
  simp only [putM]
  cases dEq (.int .i64 p) k
  ·simp only [keysOk,h.1,keys_put h.2]; rfl
  ·simp only [keysOk,h.2]; rfl
theorem find_put {p q:Int} {v:Data}:∀ {es:List (Data × Data)},keysOk (some .i64) es=true→findM (.int .i64 q) (putM (.int .i64 p) v es)=if p=q then some v else findM (.int .i64 q) es
 | [],_=>by
  simp only [putM,findM,dEq]
  by_cases e:p=q
  ·subst e; simp
  ·rw [show (q==p)=false by simpa using fun h=>e h.symm,if_neg e]
 | (k,w)::r,h=>by
  simp only [keysOk,Bool.and_eq_true] at h
  obtain ⟨k',a,rfl⟩:∃ k' a,k=.int k' a:=by
   cases k <;> simp [keyD] at h
   exact ⟨_,_,rfl⟩
  simp only [putM,dEq]
  by_cases e:p=a
  ·subst e
   simp only [BEq.rfl,findM,dEq]
   by_cases e2:q=p
   ·subst e2; simp
   ·rw [show (q==p)=false by simpa using e2,if_neg fun h=>e2 h.symm]
  ·rw [show (p==a)=false by simpa using e]
   simp only [findM,dEq,find_put h.2]
   by_cases e2:q=a
   ·subst e2; simp [e]
   ·rw [show (q==a)=false by simpa using e2]
theorem firstOf_zero:∀ {es:List Int},firstOf es=0→∀ e∈es,e=0
 | [],_,e,he=>absurd he List.not_mem_nil
 | x::r,h,e,he=>by
  simp only [firstOf] at h
  cases hx:x != 0
  ·rw [hx] at h
   rcases List.mem_cons.1 he with rfl | he
   ·simpa using hx
   ·exact firstOf_zero h e he
  ·rw [hx] at h
   have h:x=0:=h
   subst h
   cases hx
theorem checks_zero {l:List Fr} (h:checkFrames l=0):l.length≤64∧∀ f∈l,f.check=0:=by
 unfold checkFrames at h
 cases h1:decide ((64:Int) < (l.length:Int)) <;> rw [h1] at h
 ·refine ⟨by simp at h1; omega,fun f hf=>?_⟩
  exact firstOf_zero h _ (List.mem_map_of_mem hf)
 ·cases h
end Vc.L
set_option maxRecDepth 10000
namespace Vc.L
open Go Go.Proofs
def ir39:AFun:=⟨5,0,[.tmp 2],
 (.seq
 (.reg [] [⟨some 2,.mov (.cst (.d (.int .i64 0))),none⟩])
 (.seq
 (.reg [] [⟨some 3,.mov (.tmp 0),none⟩,
 ⟨some 4,.call 41 [(.tmp 3),(.cst (.d (.int .i64 0))),(.cst (.d (.int .i64 15)))],none⟩,
 ⟨some 2,.mov (.tmp 4),none⟩])
 .ret))⟩
def ir43:AFun:=⟨17,2,[.tmp 2],
 (.seq
 (.reg [0] [⟨some 1,.cbx 0 3 (.tmp 0),none⟩,
 ⟨some 2,.mov (.cst (.d (.int .i64 0))),none⟩])
 (.seq
 (.regd [1] [⟨some 3,.fad 0 (.tmp 1),none⟩,
 ⟨some 4,.ld false 1 (.tmp 3),none⟩,
 ⟨some 5,.call 83 [(.tmp 4)],none⟩,
 ⟨some 6,.fad 1 (.tmp 1),none⟩,
 ⟨some 7,.ld false 1 (.tmp 6),none⟩,
 ⟨some 8,.fad 0 (.tmp 1),none⟩,
 ⟨some 9,.ld false 1 (.tmp 8),none⟩,
 ⟨some 10,.len (.tmp 9),none⟩,
 ⟨some 11,.call 48 [(.tmp 7),(.cst (.d (.int .i64 0))),(.tmp 10)],none⟩,
 ⟨some 12,.fad 2 (.tmp 1),none⟩,
 ⟨some 13,.ld false 1 (.tmp 12),none⟩,
 ⟨some 14,.call 48 [(.tmp 13),(.cst (.d (.int .i64 1))),(.cst (.d (.int .i64 8)))],none⟩,
 ⟨some 15,.bsl 1 33 1 3 [(.int .i64 0),(.int .i64 0),(.int .i64 0)] [(0,(.tmp 5)),(1,(.tmp 11)),(2,(.tmp 14))],none⟩,
 ⟨some 16,.call 46 [(.tmp 15)],none⟩,
 ⟨some 2,.mov (.tmp 16),none⟩] [(0,3),(1,3),(2,3),(0,4),(1,4),(2,4),(0,5),(1,5),(2,5),(3,5),(4,5),(0,6),(1,6),(2,6),(3,6),(4,6),(0,7),(1,7),(2,7),(3,7),(4,7),(0,9),(1,9),(2,9),(3,9),(4,9),(5,9),(6,9),(7,9),(8,9),(0,10),(1,10),(2,10),(3,10),(4,10),(5,10),(6,10),(7,10),(8,10)])
 .ret))⟩
def ir44:AFun:=⟨15,2,[.tmp 2],
 (.seq
 (.reg [0] [⟨some 1,.cbx 0 2 (.tmp 0),none⟩,
 ⟨some 2,.mov (.cst (.d (.int .i64 0))),none⟩])
 (.seq
 (.regd [1] [⟨some 3,.fad 1 (.tmp 1),none⟩,
 ⟨some 4,.ld false 1 (.tmp 3),none⟩,
 ⟨some 5,.call 83 [(.tmp 4)],none⟩,
 ⟨some 6,.fad 0 (.tmp 1),none⟩,
 ⟨some 7,.ld false 1 (.tmp 6),none⟩,
 ⟨some 8,.fad 1 (.tmp 1),none⟩,
 ⟨some 9,.ld false 1 (.tmp 8),none⟩,
 ⟨some 10,.len (.tmp 9),none⟩,
 ⟨some 11,.cmp .neq (.tmp 7) (.tmp 10),none⟩,
 ⟨some 12,.call 69 [(.tmp 11),(.cst (.d (.int .i64 2)))],none⟩,
 ⟨some 13,.bsl 1 33 1 2 [(.int .i64 0),(.int .i64 0)] [(0,(.tmp 5)),(1,(.tmp 12))],none⟩,
 ⟨some 14,.call 46 [(.tmp 13)],none⟩,
 ⟨some 2,.mov (.tmp 14),none⟩] [(0,3),(1,3),(2,3),(0,4),(1,4),(2,4),(0,5),(1,5),(2,5),(3,5),(4,5),(0,6),(1,6),(2,6),(3,6),(4,6),(0,7),(1,7),(2,7),(3,7),(4,7),(0,8),(1,8),(2,8)])
 .ret))⟩
def ir45:AFun:=⟨26,0,[.tmp 4],
 (.seq
 (.reg [] [⟨some 4,.mov (.cst (.d (.bool false))),none⟩])
 (.seq
 (.seq
 (.reg [] [⟨some 6,.mov (.tmp 0),none⟩,
 ⟨some 7,.len (.tmp 6),none⟩,
 ⟨some 8,.mov (.tmp 1),none⟩,
 ⟨some 9,.len (.tmp 8),none⟩,
 ⟨some 10,.cmp .neq (.tmp 7) (.tmp 9),none⟩])
 (.cond (.tmp 10)
 (.seq
 (.reg [] [⟨some 4,.mov (.cst (.d (.bool false))),none⟩])
 .ret)
 .skip))
 (.seq
 (.seq
 (.reg [] [⟨some 5,.mov (.cst (.d (.int .i64 0))),none⟩])
 (.post [] []
 (.block 0
 (.keep [0,1,5] []
 (.loop
 (.post [0,1,5] []
 (.seq
 (.seq
 (.reg [] [⟨some 11,.mov (.tmp 5),none⟩,
 ⟨some 12,.mov (.tmp 0),none⟩,
 ⟨some 13,.len (.tmp 12),none⟩,
 ⟨some 14,.cmp .lss (.tmp 11) (.tmp 13),none⟩])
 (.cond (.tmp 14)
 .skip
 (.exit 0)))
 (.seq
 (.block 1
 (.seq
 (.regd [] [⟨some 17,.mov (.tmp 0),none⟩,
 ⟨some 18,.mov (.tmp 5),none⟩,
 ⟨some 19,.ixa 1 (.tmp 17) (.tmp 18),none⟩,
 ⟨some 20,.ld false 1 (.tmp 19),none⟩,
 ⟨some 21,.mov (.tmp 1),none⟩,
 ⟨some 22,.mov (.tmp 5),none⟩,
 ⟨some 23,.ixa 1 (.tmp 21) (.tmp 22),none⟩,
 ⟨some 24,.ld false 1 (.tmp 23),none⟩,
 ⟨some 25,.cmp .neq (.tmp 20) (.tmp 24),none⟩] [(0,1),(0,4),(1,4),(2,4),(3,4),(0,5),(1,5),(2,5),(3,5),(4,5),(0,6),(1,6),(2,6),(3,6),(0,7),(1,7),(2,7),(3,7)])
 (.cond (.tmp 25)
 (.seq
 (.reg [] [⟨some 4,.mov (.cst (.d (.bool false))),none⟩])
 .ret)
 .skip)))
 (.reg [] [⟨some 15,.mov (.tmp 5),none⟩,
 ⟨some 16,.arith .add .i64 (.tmp 15) (.cst (.d (.int .i64 1))),none⟩,
 ⟨some 5,.mov (.tmp 16),none⟩])))))))))
 (.seq
 (.reg [] [⟨some 4,.mov (.cst (.d (.bool true))),none⟩])
 .ret))))⟩
def ir97:AFun:=⟨10,1,[.tmp 4],
 (.seq
 (.reg [0] [⟨some 2,.cbx 0 2 (.tmp 0),none⟩,
 ⟨some 4,.mov (.cst (.d (.bool false))),none⟩])
 (.seq
 (.reg [] [⟨some 5,.mov (.tmp 1),none⟩,
 ⟨some 6,.fad 0 (.tmp 2),none⟩,
 ⟨some 7,.ld false 1 (.tmp 6),none⟩,
 ⟨some 8,.arith .rem .i64 (.tmp 7) (.cst (.d (.int .i64 16))),none⟩,
 ⟨some 9,.cmp .eql (.tmp 5) (.tmp 8),none⟩,
 ⟨some 4,.mov (.tmp 9),none⟩])
 .ret))⟩
structure Sn where
 q:List Fr
 a:Int
 w:Int
def Sn.d (s:Sn):Data:=.agg [.slice 4 (frs s.q),.int .i64 s.a,.int .i64 s.w]
structure Rc where
 t:Int
 l:List Fr
def Rc.d (r:Rc):Data:=.agg [.int .i64 r.t,.slice 4 (frs r.l)]
def chkSn (s:Sn):Int:=firstOf [checkFrames s.q,within3 s.a 0 (frs s.q).length,within3 s.w 1 8]
def chkRc (r:Rc):Int:=firstOf [checkFrames r.l,bif (r.t != ((frs r.l).length:Int)) then 2 else 0]
theorem c43 (s:Sn) (hl:s.q.length≤1048576):CallDet Tryz.prog 71 [.d s.d] [.int .i64 (chkSn s)]:=by
 refine call_of_vc (x:=ir43) (by kernel_rfl) rfl ?_
 refine ca (c85 s.q hl) ?_
 refine ca (c82 s.a 0 (frs s.q).length) ?_
 refine ca (c82 s.w 1 8) ?_
 repeat refine sd ?_
 refine ca (c81 [checkFrames s.q,within3 s.a 0 (frs s.q).length,within3 s.w 1 8] (by simp)) ?_
 exact rfl
theorem c44 (r:Rc) (hl:r.l.length≤1048576):CallDet Tryz.prog 72 [.d r.d] [.int .i64 (chkRc r)]:=by
 refine call_of_vc (x:=ir44) (by kernel_rfl) rfl ?_
 refine ca (c85 r.l hl) ?_
 refine sd ?_
 refine ca (c83 _ _) ?_
 repeat refine sd ?_
 refine ca (c81 [checkFrames r.l,bif (r.t != ((frs r.l).length:Int)) then 2 else 0] (by simp)) ?_
 exact rfl
theorem rem16 (a:Int):arithF .rem .i64 a 16=some (a.tmod 16):=by
 simp only [arithF]
 rw [if_neg (by decide)]
theorem c97 (r:Rc) (n:Int):CallDet Tryz.prog 77 [.d r.d,.d (.int .i64 n)] [.bool (n==r.t.tmod 16)]:=by
 refine call_of_vc (x:=ir97) (by kernel_rfl) rfl ?_
 refine ar_is (rem16 r.t) ?_
 refine sd ?_
 exact rfl
end Vc.L
set_option maxRecDepth 10000
namespace Vc.L
open Go Go.Proofs
theorem b_le {a b:Int} {x y:Prop} (h1:a≤b→x) (h2:¬ a≤b→y):brk (decide (a≤b)) x y :=
 b_intro (fun h=>h1 (of_decide_eq_true h)) (fun h=>h2 (of_decide_eq_false h))
theorem b_lt {a b:Int} {x y:Prop} (h1:a < b→x) (h2:¬ a < b→y):brk (decide (a < b)) x y :=
 b_intro (fun h=>h1 (of_decide_eq_true h)) (fun h=>h2 (of_decide_eq_false h))
theorem b_eq {a b:Int} {x y:Prop} (h1:a=b→x) (h2:¬ a=b→y):brk (a==b) x y :=
 b_intro (fun h=>h1 (eq_of_beq h)) (fun h=>h2 (ne_of_beq_false h))
theorem b_ne {a b:Int} {x y:Prop} (h1:¬ a=b→x) (h2:a=b→y):brk (a != b) x y :=
 b_intro (fun h=>h1 (by simpa using h)) (fun h=>h2 (by simpa using h))
theorem b_nle {a b:Int} {x y:Prop} (h1:¬ a≤b→x) (h2:a≤b→y):brk (!(decide (a≤b))) x y :=
 b_intro (fun h=>h1 (by simpa using h)) (fun h=>h2 (by simpa using h))
theorem b_nlt {a b:Int} {x y:Prop} (h1:¬ a < b→x) (h2:a < b→y):brk (!(decide (a < b))) x y :=
 b_intro (fun h=>h1 (by simpa using h)) (fun h=>h2 (by simpa using h))
structure Stn where
 nm:List UInt8
 pri:Int
 fr:Int
 wt:Int
def Stn.d (x:Stn):Data:=.agg [.str x.nm,.int .i64 x.pri,.int .i64 x.fr,.int .i64 x.wt]
def stns (l:List Stn):List Data:=l.map Stn.d
theorem stns_len (l:List Stn):(stns l).length=l.length:=List.length_map _
def okP (k:Nat) (c:Int):Prop:=(97≤c∧c≤122)∨(65≤c∧c≤90)∨(k≠0∧((48≤c∧c≤57)∨c=95))
instance (k : Nat) (c : Int) : Decidable (okP k c) := by unfold okP; infer_instance
def nmGo:Nat→List UInt8→Bool
 | _,[]=>true
 | k,c::r=>decide (okP k c.toNat)&&nmGo (k+1) r
def isNm (l:List UInt8):Bool:=(l != [])&&(decide ((l.length:Int)≤24)&&nmGo 0 l)
theorem decA_ascii {l:List UInt8} {pos:Nat} {c:UInt8} (h:l[pos]?=some c) (hc:c.toNat < 128):decA l pos=(c.toNat,1):=by
 obtain ⟨hl,e⟩:=List.getElem?_eq_some_iff.1 h
 have e2:((⟨l.toArray⟩:ByteArray)[pos]'hl)=c:=e
 have:=decode_ascii (⟨l.toArray⟩:ByteArray) pos hl (by rw [e2]; exact hc)
 rw [e2] at this
 exact this
theorem decA_high {l:List UInt8} {pos:Nat} {c:UInt8} (h:l[pos]?=some c) (hc:128≤c.toNat):128≤(decA l pos).1∧1≤(decA l pos).2:=by
 obtain ⟨hl,e⟩:=List.getElem?_eq_some_iff.1 h
 have e2:((⟨l.toArray⟩:ByteArray)[pos]'hl)=c:=e
 exact decode_high (⟨l.toArray⟩:ByteArray) pos hl (by rw [e2]; exact hc)
theorem nmGo_at {l:List UInt8} {k:Nat} {c:UInt8} (h:l[k]?=some c):nmGo k (l.drop k)=(decide (okP k c.toNat)&&nmGo (k+1) (l.drop (k+1))):=by
 obtain ⟨hl,e⟩:=List.getElem?_eq_some_iff.1 h
 rw [List.drop_eq_getElem_cons hl,e]; rfl
theorem nm_bad {l:List UInt8} {k:Nat} {c:UInt8} (h:l[k]?=some c) (hi:nmGo 0 l=nmGo k (l.drop k)) (hn:¬ okP k c.toNat):resV [.bool false]=resV [.bool (isNm l)]:=by
 unfold isNm
 rw [hi,nmGo_at h,decide_eq_false hn]; simp
theorem nm_step {l:List UInt8} {k:Nat} {c:UInt8} (h:l[k]?=some c) (hi:nmGo 0 l=nmGo k (l.drop k)) (hn:okP k c.toNat):nmGo 0 l=nmGo (k+1) (l.drop (k+1)):=by
 rw [hi,nmGo_at h,decide_eq_true hn]; rfl
theorem nm_end {l:List UInt8} {k:Nat} (hk:l.length≤k) (hi:nmGo 0 l=nmGo k (l.drop k)):isNm l=((l != [])&&decide ((l.length:Int)≤24)):=by
 unfold isNm
 rw [hi,List.drop_eq_nil_of_le hk]; simp [nmGo]
def ir114:AFun:=⟨51,1,[.tmp 2],
 (.seq
 (.reg [] [⟨some 2,.mov (.cst (.d (.bool false))),none⟩])
 (.seq
 (.seq
 (.reg [0] [⟨some 6,.mov (.tmp 0),none⟩,
 ⟨some 7,.rng 0 (.tmp 6),none⟩])
 (.post [0] [0]
 (.block 0
 (.keep [0,7] [0]
 (.loop
 (.post [0,7] []
 (.seq
 (.reg [] [⟨some 8,.nxt (.tmp 7),none⟩,
 ⟨some 9,.ext 0 (.tmp 8),none⟩])
 (.seq
 (.cond (.tmp 9)
 .skip
 (.exit 0))
 (.block 1
 (.seq
 (.reg [] [⟨some 10,.ext 1 (.tmp 8),none⟩,
 ⟨some 11,.ext 2 (.tmp 8),none⟩,
 ⟨some 3,.mov (.tmp 10),none⟩,
 ⟨some 4,.mov (.tmp 11),none⟩])
 (.seq
 (.reg [] [⟨some 12,.mov (.tmp 4),none⟩,
 ⟨some 13,.cmp .geq (.tmp 12) (.cst (.d (.int .i32 97))),none⟩,
 ⟨some 14,.mov (.tmp 13),none⟩,
 ⟨some 15,.mov (.tmp 4),some (14,true)⟩,
 ⟨some 16,.cmp .leq (.tmp 15) (.cst (.d (.int .i32 122))),some (14,true)⟩,
 ⟨some 17,.pick (.tmp 14) (.tmp 16) (.cst (.d (.bool false))),none⟩,
 ⟨some 18,.mov (.tmp 17),none⟩,
 ⟨some 19,.mov (.tmp 4),some (18,false)⟩,
 ⟨some 20,.cmp .geq (.tmp 19) (.cst (.d (.int .i32 65))),some (18,false)⟩,
 ⟨some 21,.mov (.tmp 20),some (18,false)⟩,
 ⟨some 22,.mov (.tmp 4),some (21,true)⟩,
 ⟨some 23,.cmp .leq (.tmp 22) (.cst (.d (.int .i32 90))),some (21,true)⟩,
 ⟨some 24,.pick (.tmp 21) (.tmp 23) (.cst (.d (.bool false))),some (18,false)⟩,
 ⟨some 25,.pick (.tmp 18) (.cst (.d (.bool true))) (.tmp 24),none⟩,
 ⟨some 5,.mov (.tmp 25),none⟩])
 (.seq
 (.reg [] [⟨some 26,.mov (.tmp 5),none⟩,
 ⟨some 27,.not (.tmp 26),none⟩,
 ⟨some 28,.mov (.tmp 27),none⟩,
 ⟨some 29,.mov (.tmp 3),some (28,true)⟩,
 ⟨some 30,.cmp .eql (.tmp 29) (.cst (.d (.int .i64 0))),some (28,true)⟩,
 ⟨some 31,.mov (.tmp 30),some (28,true)⟩,
 ⟨some 32,.mov (.tmp 4),some (31,false)⟩,
 ⟨some 33,.cmp .neq (.tmp 32) (.cst (.d (.int .i32 95))),some (31,false)⟩,
 ⟨some 34,.mov (.tmp 33),some (31,false)⟩,
 ⟨some 35,.mov (.tmp 4),some (34,true)⟩,
 ⟨some 36,.cmp .lss (.tmp 35) (.cst (.d (.int .i32 48))),some (34,true)⟩,
 ⟨some 37,.mov (.tmp 36),some (34,true)⟩,
 ⟨some 38,.mov (.tmp 4),some (37,false)⟩,
 ⟨some 39,.cmp .gtr (.tmp 38) (.cst (.d (.int .i32 57))),some (37,false)⟩,
 ⟨some 40,.pick (.tmp 37) (.cst (.d (.bool true))) (.tmp 39),some (34,true)⟩,
 ⟨some 41,.pick (.tmp 34) (.tmp 40) (.cst (.d (.bool false))),some (31,false)⟩,
 ⟨some 42,.pick (.tmp 31) (.cst (.d (.bool true))) (.tmp 41),some (28,true)⟩,
 ⟨some 43,.pick (.tmp 28) (.tmp 42) (.cst (.d (.bool false))),none⟩])
 (.cond (.tmp 43)
 (.seq
 (.reg [] [⟨some 2,.mov (.cst (.d (.bool false))),none⟩])
 .ret)
 .skip)))))))))))))
 (.seq
 (.reg [] [⟨some 44,.mov (.tmp 0),none⟩,
 ⟨some 45,.seq true (.tmp 44) (.cst (.d (.str []))),none⟩,
 ⟨some 46,.mov (.tmp 45),none⟩,
 ⟨some 47,.mov (.tmp 0),some (46,true)⟩,
 ⟨some 48,.lens (.tmp 47),some (46,true)⟩,
 ⟨some 49,.cmp .leq (.tmp 48) (.cst (.d (.int .i64 24))),some (46,true)⟩,
 ⟨some 50,.pick (.tmp 46) (.tmp 49) (.cst (.d (.bool false))),none⟩,
 ⟨some 2,.mov (.tmp 50),none⟩])
 .ret)))⟩
def ir143:AFun:=⟨67,0,[.tmp 2],
 (.seq
 (.reg [] [⟨some 2,.mov (.cst (.d (.bool false))),none⟩])
 (.seq
 (.seq
 (.reg [] [⟨some 6,.mov (.tmp 0),none⟩,
 ⟨some 7,.seq false (.tmp 6) (.cst (.d (.str []))),none⟩,
 ⟨some 8,.mov (.tmp 7),none⟩,
 ⟨some 9,.mov (.tmp 0),some (8,false)⟩,
 ⟨some 10,.lens (.tmp 9),some (8,false)⟩,
 ⟨some 11,.cmp .gtr (.tmp 10) (.cst (.d (.int .i64 24))),some (8,false)⟩,
 ⟨some 12,.pick (.tmp 8) (.cst (.d (.bool true))) (.tmp 11),none⟩])
 (.cond (.tmp 12)
 (.seq
 (.reg [] [⟨some 2,.mov (.cst (.d (.bool false))),none⟩])
 .ret)
 .skip))
 (.seq
 (.seq
 (.reg [] [⟨some 3,.mov (.cst (.d (.int .i64 0))),none⟩])
 (.post [] []
 (.block 0
 (.keep [0,3] []
 (.loop
 (.post [0,3] []
 (.seq
 (.seq
 (.reg [] [⟨some 13,.mov (.tmp 3),none⟩,
 ⟨some 14,.mov (.tmp 0),none⟩,
 ⟨some 15,.lens (.tmp 14),none⟩,
 ⟨some 16,.cmp .lss (.tmp 13) (.tmp 15),none⟩])
 (.cond (.tmp 16)
 .skip
 (.exit 0)))
 (.seq
 (.block 1
 (.seq
 (.reg [] [⟨some 19,.mov (.tmp 0),none⟩,
 ⟨some 20,.mov (.tmp 3),none⟩,
 ⟨some 21,.ixs (.tmp 19) (.tmp 20),none⟩,
 ⟨some 22,.cmp .geq (.tmp 21) (.cst (.d (.int .u8 97))),none⟩,
 ⟨some 23,.mov (.tmp 22),none⟩,
 ⟨some 24,.mov (.tmp 0),some (23,true)⟩,
 ⟨some 25,.mov (.tmp 3),some (23,true)⟩,
 ⟨some 26,.ixs (.tmp 24) (.tmp 25),some (23,true)⟩,
 ⟨some 27,.cmp .leq (.tmp 26) (.cst (.d (.int .u8 122))),some (23,true)⟩,
 ⟨some 28,.pick (.tmp 23) (.tmp 27) (.cst (.d (.bool false))),none⟩,
 ⟨some 29,.mov (.tmp 28),none⟩,
 ⟨some 30,.mov (.tmp 0),some (29,false)⟩,
 ⟨some 31,.mov (.tmp 3),some (29,false)⟩,
 ⟨some 32,.ixs (.tmp 30) (.tmp 31),some (29,false)⟩,
 ⟨some 33,.cmp .geq (.tmp 32) (.cst (.d (.int .u8 65))),some (29,false)⟩,
 ⟨some 34,.mov (.tmp 33),some (29,false)⟩,
 ⟨some 35,.mov (.tmp 0),some (34,true)⟩,
 ⟨some 36,.mov (.tmp 3),some (34,true)⟩,
 ⟨some 37,.ixs (.tmp 35) (.tmp 36),some (34,true)⟩,
 ⟨some 38,.cmp .leq (.tmp 37) (.cst (.d (.int .u8 90))),some (34,true)⟩,
 ⟨some 39,.pick (.tmp 34) (.tmp 38) (.cst (.d (.bool false))),some (29,false)⟩,
 ⟨some 40,.pick (.tmp 29) (.cst (.d (.bool true))) (.tmp 39),none⟩,
 ⟨some 4,.mov (.tmp 40),none⟩])
 (.seq
 (.reg [] [⟨some 41,.mov (.tmp 0),none⟩,
 ⟨some 42,.mov (.tmp 3),none⟩,
 ⟨some 43,.ixs (.tmp 41) (.tmp 42),none⟩,
 ⟨some 44,.cmp .geq (.tmp 43) (.cst (.d (.int .u8 48))),none⟩,
 ⟨some 45,.mov (.tmp 44),none⟩,
 ⟨some 46,.mov (.tmp 0),some (45,true)⟩,
 ⟨some 47,.mov (.tmp 3),some (45,true)⟩,
 ⟨some 48,.ixs (.tmp 46) (.tmp 47),some (45,true)⟩,
 ⟨some 49,.cmp .leq (.tmp 48) (.cst (.d (.int .u8 57))),some (45,true)⟩,
 ⟨some 50,.pick (.tmp 45) (.tmp 49) (.cst (.d (.bool false))),none⟩,
 ⟨some 51,.mov (.tmp 50),none⟩,
 ⟨some 52,.mov (.tmp 0),some (51,false)⟩,
 ⟨some 53,.mov (.tmp 3),some (51,false)⟩,
 ⟨some 54,.ixs (.tmp 52) (.tmp 53),some (51,false)⟩,
 ⟨some 55,.cmp .eql (.tmp 54) (.cst (.d (.int .u8 95))),some (51,false)⟩,
 ⟨some 56,.pick (.tmp 51) (.cst (.d (.bool true))) (.tmp 55),none⟩,
 ⟨some 5,.mov (.tmp 56),none⟩])
 (.seq
 (.reg [] [⟨some 57,.mov (.tmp 4),none⟩,
 ⟨some 58,.not (.tmp 57),none⟩,
 ⟨some 59,.mov (.tmp 58),none⟩,
 ⟨some 60,.mov (.tmp 3),some (59,true)⟩,
 ⟨some 61,.cmp .eql (.tmp 60) (.cst (.d (.int .i64 0))),some (59,true)⟩,
 ⟨some 62,.mov (.tmp 61),some (59,true)⟩,
 ⟨some 63,.mov (.tmp 5),some (62,false)⟩,
 ⟨some 64,.not (.tmp 63),some (62,false)⟩,
 ⟨some 65,.pick (.tmp 62) (.cst (.d (.bool true))) (.tmp 64),some (59,true)⟩,
 ⟨some 66,.pick (.tmp 59) (.tmp 65) (.cst (.d (.bool false))),none⟩])
 (.cond (.tmp 66)
 (.seq
 (.reg [] [⟨some 2,.mov (.cst (.d (.bool false))),none⟩])
 .ret)
 .skip)))))
 (.reg [] [⟨some 17,.mov (.tmp 3),none⟩,
 ⟨some 18,.arith .add .i64 (.tmp 17) (.cst (.d (.int .i64 1))),none⟩,
 ⟨some 3,.mov (.tmp 18),none⟩])))))))))
 (.seq
 (.reg [] [⟨some 2,.mov (.cst (.d (.bool true))),none⟩])
 .ret))))⟩
def ir112:AFun:=⟨7,0,[.tmp 2],
 (.seq
 (.reg [] [⟨some 2,.mov (.cst (.d (.int .i64 0))),none⟩])
 (.seq
 (.reg [] [⟨some 3,.mov (.tmp 0),none⟩,
 ⟨some 4,.call 65 [(.tmp 3)],none⟩,
 ⟨some 5,.not (.tmp 4),none⟩,
 ⟨some 6,.call 42 [(.tmp 5),(.cst (.d (.int .i64 8)))],none⟩,
 ⟨some 2,.mov (.tmp 6),none⟩])
 .ret))⟩
set_option maxHeartbeats 4000000 in
theorem c114 (l:List UInt8):CallDet Tryz.prog 85 [.d (.str l)] [.bool (isNm l)]:=by
 refine call_of_vc (x:=ir114) (by kernel_rfl) rfl ?_
 refine loop_st (fun pos:Nat=>⟨[(0,.d (.str l)),(7,.it 0)],[.sit l pos]⟩)
  (fun pos=>nmGo 0 l=nmGo pos (l.drop pos)) (fun pos=>l.length - pos) 0 rfl rfl ?_
 intro pos hi
 rcases Nat.lt_or_ge pos l.length with hl | hl
 ·refine Exists.elim (⟨_,List.getElem?_eq_getElem hl⟩:∃ x,l[pos]?=some x) fun c hc=>?_
  refine Exists.intro _ (Exists.intro _ (And.intro (Or.inl ⟨hl,rfl,rfl⟩) ?_))
  have hdec:(((decA l pos).1:Int)=(c.toNat:Int)∧(decA l pos).2=1)∨((128:Int)≤((decA l pos).1:Int)∧(128:Int)≤(c.toNat:Int)):=by
   rcases Nat.lt_or_ge c.toNat 128 with h | h
   ·exact .inl (by rw [decA_ascii hc h]; exact ⟨rfl,rfl⟩)
   ·exact .inr (by have:=(decA_high hc h).1; omega)
  have bad:¬ okP pos ((decA l pos).1:Int)→resV [.bool false]=resV [.bool (isNm l)]:=fun h=>nm_bad hc hi (by unfold okP at *; omega)
  have good:okP pos ((decA l pos).1:Int)→∃ a',(nmGo 0 l=nmGo a' (l.drop a')∧l.length - a' < l.length - pos)∧(⟨[(0,.d (.str l)),(7,.it 0)],[.sit l (((pos+(decA l pos).2:Nat):Int)).toNat]⟩:St)=⟨[(0,.d (.str l)),(7,.it 0)],[.sit l a']⟩:=fun h=>by
   have h2:((decA l pos).1:Int)=(c.toNat:Int)∧(decA l pos).2=1:=by
    rcases hdec with h3 | h3
    ·exact h3
    ·unfold okP at h; omega
   rw [h2.2]
   rw [h2.1] at h
   exact ⟨pos+1,⟨nm_step hc hi h,by omega⟩,rfl⟩
  generalize hr:((decA l pos).1:Int)=r at *
  clear hdec
  refine sd ?_
  refine b_le (fun t1=>?_) (fun t1=>?_)
  ·refine sd ?_
   refine b_le (fun t2=>?_) (fun t2=>?_)
   ·refine sd ?_
    refine sd ?_
    exact good (by unfold okP; omega)
   ·refine sd ?_
    refine b_le (fun t3=>?_) (fun t3=>?_)
    ·refine sd ?_
     refine b_nle (fun t4=>?_) (fun t4=>?_)
     ·refine sd ?_
      refine b_eq (fun t5=>?_) (fun t5=>?_)
      ·refine sd ?_
       exact bad (by unfold okP; omega)
      ·refine sd ?_
       refine b_ne (fun t6=>?_) (fun t6=>?_)
       ·refine sd ?_
        refine b_lt (fun t7=>?_) (fun t7=>?_)
        ·refine sd ?_
         exact bad (by unfold okP; omega)
        ·refine sd ?_
         refine b_lt (fun t8=>?_) (fun t8=>?_)
         ·exact bad (by unfold okP; omega)
         ·exact good (by unfold okP; omega)
       ·refine sd ?_
        exact good (by unfold okP; omega)
     ·refine sd ?_
      exact good (by unfold okP; omega)
    ·refine sd ?_
     refine sd ?_
     refine b_eq (fun t9=>?_) (fun t9=>?_)
     ·refine sd ?_
      exact bad (by unfold okP; omega)
     ·refine sd ?_
      refine b_ne (fun t10=>?_) (fun t10=>?_)
      ·refine sd ?_
       refine b_lt (fun t11=>?_) (fun t11=>?_)
       ·refine sd ?_
        exact bad (by unfold okP; omega)
       ·refine sd ?_
        refine b_lt (fun t12=>?_) (fun t12=>?_)
        ·exact bad (by unfold okP; omega)
        ·exact good (by unfold okP; omega)
      ·refine sd ?_
       exact good (by unfold okP; omega)
  ·refine sd ?_
   refine sd ?_
   refine b_le (fun t13=>?_) (fun t13=>?_)
   ·refine sd ?_
    refine b_nle (fun t14=>?_) (fun t14=>?_)
    ·refine sd ?_
     refine b_eq (fun t15=>?_) (fun t15=>?_)
     ·refine sd ?_
      exact bad (by unfold okP; omega)
     ·refine sd ?_
      refine b_ne (fun t16=>?_) (fun t16=>?_)
      ·refine sd ?_
       refine b_lt (fun t17=>?_) (fun t17=>?_)
       ·refine sd ?_
        exact bad (by unfold okP; omega)
       ·refine sd ?_
        refine b_lt (fun t18=>?_) (fun t18=>?_)
        ·exact bad (by unfold okP; omega)
        ·exact good (by unfold okP; omega)
      ·refine sd ?_
       exact good (by unfold okP; omega)
    ·refine sd ?_
     exact good (by unfold okP; omega)
   ·refine sd ?_
    refine sd ?_
    refine b_eq (fun t19=>?_) (fun t19=>?_)
    ·refine sd ?_
     exact bad (by unfold okP; omega)
    ·refine sd ?_
     refine b_ne (fun t20=>?_) (fun t20=>?_)
     ·refine sd ?_
      refine b_lt (fun t21=>?_) (fun t21=>?_)
      ·refine sd ?_
       exact bad (by unfold okP; omega)
      ·refine sd ?_
       refine b_lt (fun t22=>?_) (fun t22=>?_)
       ·exact bad (by unfold okP; omega)
       ·exact good (by unfold okP; omega)
     ·refine sd ?_
      exact good (by unfold okP; omega)
 ·refine Exists.intro _ (Exists.intro _ (And.intro (Or.inr ⟨hl,rfl,rfl⟩) ?_))
  have e:=nm_end hl hi
  have fin:∀ b:Bool,isNm l=b→resV [.bool b]=resV [.bool (isNm l)]:=fun b h=>by rw [h]
  refine b_intro ?_ ?_
  ·intro h
   have h:(l != [])=true:=h
   refine sd ?_
   exact fin _ (by rw [e,h]; rfl)
  ·intro h
   have h:(l != [])=false:=h
   refine sd ?_
   exact fin _ (by rw [e,h]; rfl)
theorem nm_long {l:List UInt8} (h:(24:Int) < (l.length:Int)):isNm l=false:=by
 unfold isNm; rw [decide_eq_false (by omega)]; simp
set_option maxHeartbeats 4000000 in
theorem c143 (l:List UInt8):CallDet Tryz.prog 65 [.d (.str l)] [.bool (isNm l)]:=by
 refine call_of_vc (x:=ir143) (by kernel_rfl) rfl ?_
 have fin:∀ b:Bool,isNm l=b→resV [.bool b]=resV [.bool (isNm l)]:=fun b h=>by rw [h]
 refine b_intro ?_ ?_
 ·intro h
  have h:(l==[])=true:=h
  have e:l=[]:=by simpa using h
  repeat refine sd ?_
  exact fin false (by rw [e]; rfl)
 intro h0
 have h0:(l==[])=false:=h0
 refine sd ?_
 refine b_lt (fun h=>?_) (fun h=>?_)
 ·exact fin _ (nm_long h)
 refine loop_st (fun k:Nat=>⟨[(0,.d (.str l)),(3,.d (.int .i64 k))],[]⟩)
  (fun k=>nmGo 0 l=nmGo k (l.drop k)) (fun k=>l.length - k) 0 rfl rfl ?_
 intro k hi
 refine sd ?_
 refine b_lt (fun hl=>?_) (fun hl=>?_)
 ·have hl:(k:Int) < (l.length:Int):=hl
  refine Exists.elim (⟨_,List.getElem?_eq_getElem (by omega)⟩:∃ x,l[k]?=some x) fun c hc=>?_
  have hx:0≤(k:Int)∧(l[(k:Int).toNat]?).map (fun c=>(c.toNat:Int))=some (c.toNat:Int):=⟨by omega,by rw [show (k:Int).toNat=k from rfl,hc]; rfl⟩
  have bad:¬ okP k (c.toNat:Int)→resV [.bool false]=resV [.bool (isNm l)]:=fun h=>nm_bad hc hi h
  have good:okP k (c.toNat:Int)→∃ a',(nmGo 0 l=nmGo a' (l.drop a')∧l.length - a' < l.length - k)∧(⟨[(0,.d (.str l)),(3,.d (.int .i64 ((k:Int)+1)))],[]⟩:St)=⟨[(0,.d (.str l)),(3,.d (.int .i64 a'))],[]⟩:=fun h =>
   ⟨k+1,⟨nm_step hc hi h,by omega⟩,rfl⟩
  have hb:-9223372036854775808≤(k:Int)+1∧(k:Int)+1≤9223372036854775807:=by omega
  generalize hr:(c.toNat:Int)=r at *
  refine ca hx ?_
  refine sd ?_
  refine b_le (fun t1=>?_) (fun t1=>?_)
  ·refine ca hx ?_
   refine sd ?_
   refine b_le (fun t2=>?_) (fun t2=>?_)
   ·refine sd ?_
    refine ca hx ?_
    refine sd ?_
    refine b_le (fun t3=>?_) (fun t3=>?_)
    ·refine ca hx ?_
     refine sd ?_
     refine b_le (fun t4=>?_) (fun t4=>?_)
     ·refine sd ?_
      refine sd ?_
      refine ar_add hb ?_
      exact good (by unfold okP; omega)
     ·refine ca hx ?_
      refine sd ?_
      refine sd ?_
      refine ar_add hb ?_
      exact good (by unfold okP; omega)
    ·refine sd ?_
     refine ca hx ?_
     refine sd ?_
     refine sd ?_
     refine ar_add hb ?_
     exact good (by unfold okP; omega)
   ·refine ca hx ?_
    refine sd ?_
    refine b_le (fun t5=>?_) (fun t5=>?_)
    ·refine ca hx ?_
     refine sd ?_
     refine ca hx ?_
     refine sd ?_
     refine b_le (fun t6=>?_) (fun t6=>?_)
     ·refine ca hx ?_
      refine sd ?_
      refine b_le (fun t7=>?_) (fun t7=>?_)
      ·refine sd ?_
       refine b_nle (fun t8=>?_) (fun t8=>?_)
       ·refine sd ?_
        refine b_eq (fun t9=>?_) (fun t9=>?_)
        ·refine sd ?_
         exact bad (by unfold okP; omega)
        ·refine ar_add hb ?_
         exact good (by unfold okP; omega)
       ·refine sd ?_
        refine ar_add hb ?_
        exact good (by unfold okP; omega)
      ·refine ca hx ?_
       refine sd ?_
       refine b_nle (fun t10=>?_) (fun t10=>?_)
       ·refine sd ?_
        refine b_eq (fun t11=>?_) (fun t11=>?_)
        ·refine sd ?_
         exact bad (by unfold okP; omega)
        ·refine b_ne (fun t12=>?_) (fun t12=>?_)
         ·exact bad (by unfold okP; omega)
         ·refine ar_add hb ?_
          exact good (by unfold okP; omega)
       ·refine sd ?_
        refine ar_add hb ?_
        exact good (by unfold okP; omega)
     ·refine sd ?_
      refine ca hx ?_
      refine sd ?_
      refine b_nle (fun t13=>?_) (fun t13=>?_)
      ·refine sd ?_
       refine b_eq (fun t14=>?_) (fun t14=>?_)
       ·refine sd ?_
        exact bad (by unfold okP; omega)
       ·refine b_ne (fun t15=>?_) (fun t15=>?_)
        ·exact bad (by unfold okP; omega)
        ·refine ar_add hb ?_
         exact good (by unfold okP; omega)
      ·refine sd ?_
       refine ar_add hb ?_
       exact good (by unfold okP; omega)
    ·refine sd ?_
     refine ca hx ?_
     refine sd ?_
     refine b_le (fun t16=>?_) (fun t16=>?_)
     ·refine ca hx ?_
      refine sd ?_
      refine b_le (fun t17=>?_) (fun t17=>?_)
      ·refine sd ?_
       refine sd ?_
       refine b_eq (fun t18=>?_) (fun t18=>?_)
       ·refine sd ?_
        exact bad (by unfold okP; omega)
       ·refine ar_add hb ?_
        exact good (by unfold okP; omega)
      ·refine ca hx ?_
       refine sd ?_
       refine sd ?_
       refine b_eq (fun t19=>?_) (fun t19=>?_)
       ·refine sd ?_
        exact bad (by unfold okP; omega)
       ·refine b_ne (fun t20=>?_) (fun t20=>?_)
        ·exact bad (by unfold okP; omega)
        ·refine ar_add hb ?_
         exact good (by unfold okP; omega)
     ·refine sd ?_
      refine ca hx ?_
      refine sd ?_
      refine sd ?_
      refine b_eq (fun t21=>?_) (fun t21=>?_)
      ·refine sd ?_
       exact bad (by unfold okP; omega)
      ·refine b_ne (fun t22=>?_) (fun t22=>?_)
       ·exact bad (by unfold okP; omega)
       ·refine ar_add hb ?_
        exact good (by unfold okP; omega)
  ·refine sd ?_
   refine ca hx ?_
   refine sd ?_
   refine b_le (fun t23=>?_) (fun t23=>?_)
   ·refine ca hx ?_
    refine sd ?_
    refine ca hx ?_
    refine sd ?_
    refine b_le (fun t24=>?_) (fun t24=>?_)
    ·refine ca hx ?_
     refine sd ?_
     refine b_le (fun t25=>?_) (fun t25=>?_)
     ·refine sd ?_
      refine b_nle (fun t26=>?_) (fun t26=>?_)
      ·refine sd ?_
       refine b_eq (fun t27=>?_) (fun t27=>?_)
       ·refine sd ?_
        exact bad (by unfold okP; omega)
       ·refine ar_add hb ?_
        exact good (by unfold okP; omega)
      ·refine sd ?_
       refine ar_add hb ?_
       exact good (by unfold okP; omega)
     ·refine ca hx ?_
      refine sd ?_
      refine b_nle (fun t28=>?_) (fun t28=>?_)
      ·refine sd ?_
       refine b_eq (fun t29=>?_) (fun t29=>?_)
       ·refine sd ?_
        exact bad (by unfold okP; omega)
       ·refine b_ne (fun t30=>?_) (fun t30=>?_)
        ·exact bad (by unfold okP; omega)
        ·refine ar_add hb ?_
         exact good (by unfold okP; omega)
      ·refine sd ?_
       refine ar_add hb ?_
       exact good (by unfold okP; omega)
    ·refine sd ?_
     refine ca hx ?_
     refine sd ?_
     refine b_nle (fun t31=>?_) (fun t31=>?_)
     ·refine sd ?_
      refine b_eq (fun t32=>?_) (fun t32=>?_)
      ·refine sd ?_
       exact bad (by unfold okP; omega)
      ·refine b_ne (fun t33=>?_) (fun t33=>?_)
       ·exact bad (by unfold okP; omega)
       ·refine ar_add hb ?_
        exact good (by unfold okP; omega)
     ·refine sd ?_
      refine ar_add hb ?_
      exact good (by unfold okP; omega)
   ·refine sd ?_
    refine ca hx ?_
    refine sd ?_
    refine b_le (fun t34=>?_) (fun t34=>?_)
    ·refine ca hx ?_
     refine sd ?_
     refine b_le (fun t35=>?_) (fun t35=>?_)
     ·refine sd ?_
      refine sd ?_
      refine b_eq (fun t36=>?_) (fun t36=>?_)
      ·refine sd ?_
       exact bad (by unfold okP; omega)
      ·refine ar_add hb ?_
       exact good (by unfold okP; omega)
     ·refine ca hx ?_
      refine sd ?_
      refine sd ?_
      refine b_eq (fun t37=>?_) (fun t37=>?_)
      ·refine sd ?_
       exact bad (by unfold okP; omega)
      ·refine b_ne (fun t38=>?_) (fun t38=>?_)
       ·exact bad (by unfold okP; omega)
       ·refine ar_add hb ?_
        exact good (by unfold okP; omega)
    ·refine sd ?_
     refine ca hx ?_
     refine sd ?_
     refine sd ?_
     refine b_eq (fun t39=>?_) (fun t39=>?_)
     ·refine sd ?_
      exact bad (by unfold okP; omega)
     ·refine b_ne (fun t40=>?_) (fun t40=>?_)
      ·exact bad (by unfold okP; omega)
      ·refine ar_add hb ?_
       exact good (by unfold okP; omega)
 ·have hl:¬ (k:Int) < (l.length:Int):=hl
  refine fin true ?_
  rw [nm_end (by omega) hi,decide_eq_true (by omega),bne,h0]; rfl
end Vc.L
set_option maxRecDepth 10000
namespace Vc.L
open Go Go.Proofs
def chkSt (names:List (List UInt8)) (x:Stn):Int:=firstOf [bif !(isNm x.nm) then 8 else 0,bif names.contains x.nm then 9 else 0,within3 x.pri 0 3,within3 x.fr 0 64,within3 x.wt 0 1000]
def chkGo:List (List UInt8)→List Stn→Int
 | _,[]=>0
 | names,x::r=>bif chkSt names x != 0 then chkSt names x else chkGo (names++[x.nm]) r
def chkStns (l:List Stn):Int:=bif decide ((8:Int) < (l.length:Int)) then 5 else chkGo [] l
def nmsTo (l:List Stn) (k:Nat):List (List UInt8):=(l.take k).map Stn.nm
theorem nmsTo_succ {l:List Stn} {k:Nat} {x:Stn} (h:l[k]?=some x):nmsTo l (k+1)=nmsTo l k++[x.nm]:=by
 rw [nmsTo,take_one h,List.map_append]; rfl
theorem chkGo_at {l:List Stn} {k:Nat} {x:Stn} (h:l[k]?=some x):chkGo (nmsTo l k) (l.drop k)=bif chkSt (nmsTo l k) x != 0 then chkSt (nmsTo l k) x else chkGo (nmsTo l (k+1)) (l.drop (k+1)):=by
 obtain ⟨hl,e⟩:=List.getElem?_eq_some_iff.1 h
 rw [List.drop_eq_getElem_cons hl,e,nmsTo_succ h]; rfl
theorem st_big {l:List Stn} (h:decide ((8:Int) < (l.length:Int))=true):resV [.int .i64 5]=resV [.int .i64 (chkStns l)]:=by unfold chkStns; rw [h]; rfl
theorem st_small {l:List Stn} (h:decide ((8:Int) < (l.length:Int))=false):chkStns l=chkGo (nmsTo l 0) (l.drop 0):=by unfold chkStns; rw [h]; rfl
theorem st_bad {l:List Stn} {k:Nat} {x:Stn} (h:l[k]?=some x) (hi:chkStns l=chkGo (nmsTo l k) (l.drop k)) (hb:(chkSt (nmsTo l k) x != 0)=true):resV [.int .i64 (chkSt (nmsTo l k) x)]=resV [.int .i64 (chkStns l)]:=by
 rw [hi,chkGo_at h,hb]; rfl
theorem st_ok {l:List Stn} {k:Nat} {x:Stn} (h:l[k]?=some x) (hi:chkStns l=chkGo (nmsTo l k) (l.drop k)) (hb:(chkSt (nmsTo l k) x != 0)=false):chkStns l=chkGo (nmsTo l (k+1)) (l.drop (k+1)):=by
 rw [hi,chkGo_at h,hb]; rfl
theorem st_end {l:List Stn} {k:Nat} (hk:l.length≤k) (hi:chkStns l=chkGo (nmsTo l k) (l.drop k)):resV [.int .i64 0]=resV [.int .i64 (chkStns l)]:=by
 rw [hi,List.drop_eq_nil_of_le hk]; rfl
def strs (l:List (List UInt8)):List Data:=l.map .str
def ir113:AFun:=⟨18,0,[.tmp 4],
 (.seq
 (.reg [] [⟨some 4,.mov (.cst (.d (.bool false))),none⟩])
 (.seq
 (.seq
 (.reg [] [⟨some 5,.mov (.cst (.d (.int .i64 0))),none⟩])
 (.post [] []
 (.block 0
 (.keep [0,1,5] []
 (.loop
 (.post [0,1,5] []
 (.seq
 (.seq
 (.reg [] [⟨some 6,.mov (.tmp 5),none⟩,
 ⟨some 7,.mov (.tmp 0),none⟩,
 ⟨some 8,.len (.tmp 7),none⟩,
 ⟨some 9,.cmp .lss (.tmp 6) (.tmp 8),none⟩])
 (.cond (.tmp 9)
 .skip
 (.exit 0)))
 (.seq
 (.block 1
 (.seq
 (.reg [] [⟨some 12,.mov (.tmp 0),none⟩,
 ⟨some 13,.mov (.tmp 5),none⟩,
 ⟨some 14,.ixa 1 (.tmp 12) (.tmp 13),none⟩,
 ⟨some 15,.ld false 1 (.tmp 14),none⟩,
 ⟨some 16,.mov (.tmp 1),none⟩,
 ⟨some 17,.seq false (.tmp 15) (.tmp 16),none⟩])
 (.cond (.tmp 17)
 (.seq
 (.reg [] [⟨some 4,.mov (.cst (.d (.bool true))),none⟩])
 .ret)
 .skip)))
 (.reg [] [⟨some 10,.mov (.tmp 5),none⟩,
 ⟨some 11,.arith .add .i64 (.tmp 10) (.cst (.d (.int .i64 1))),none⟩,
 ⟨some 5,.mov (.tmp 11),none⟩])))))))))
 (.seq
 (.reg [] [⟨some 4,.mov (.cst (.d (.bool false))),none⟩])
 .ret)))⟩
theorem c113 (l:List (List UInt8)) (s:List UInt8) (hl:l.length≤1048576):CallDet Tryz.prog 66 [.d (.slice 1 (strs l)),.d (.str s)] [.bool (l.contains s)]:=by
 have hlen:(strs l).length=l.length:=List.length_map _
 refine call_of_vc (x:=ir113) (by kernel_rfl) rfl ?_
 refine loop_st (fun k:Nat=>⟨[(0,.d (.slice 1 (strs l))),(1,.d (.str s)),(5,.d (.int .i64 k))],[]⟩)
  (fun k=>l.contains s=(l.drop k).contains s) (fun k=>l.length - k) 0 rfl rfl ?_
 intro k hi
 refine sd ?_
 refine b_lt (fun h=>?_) (fun h=>?_)
 ·have h:(k:Int) < ((strs l).length:Int):=h
  refine Exists.elim (⟨_,List.getElem?_eq_getElem (by omega)⟩:∃ x,l[k]?=some x) fun x hx=>?_
  have hd:(strs l)[(k:Int).toNat]?=some (.str x):=by simp [strs,hx]
  obtain ⟨hl2,e⟩:=List.getElem?_eq_some_iff.1 hx
  rw [List.drop_eq_getElem_cons hl2,e] at hi
  refine ix_at hd (by omega) ?_
  refine b_intro ?_ ?_
  ·intro hb
   have hb:(x==s)=true:=hb
   have:l.contains s=true:=by rw [hi]; simp [eq_of_beq hb]
   exact (congrArg (fun b=>resV [.bool b]) this).symm
  ·intro hb
   have hb:(x==s)=false:=hb
   refine ar_add (by omega) ?_
   refine ⟨k+1,⟨?_,by show l.length - (k+1) < l.length - k; omega⟩,rfl⟩
   show l.contains s=(l.drop (k+1)).contains s
   rw [hi,List.contains_cons,show (s==x)=false by rw [beq_eq_false_iff_ne]; exact fun e=>(ne_of_beq_false hb) e.symm]; simp
 ·have h:¬ (k:Int) < ((strs l).length:Int):=h
  have:l.contains s=false:=by rw [hi,List.drop_eq_nil_of_le (by omega)]; rfl
  exact (congrArg (fun b=>resV [.bool b]) this).symm
def ir70:AFun:=⟨45,3,[.tmp 2],
 (.seq
 (.reg [] [⟨some 2,.mov (.cst (.d (.int .i64 0))),none⟩])
 (.seq
 (.seq
 (.reg [] [⟨some 7,.mov (.tmp 0),none⟩,
 ⟨some 8,.len (.tmp 7),none⟩,
 ⟨some 9,.cmp .gtr (.tmp 8) (.cst (.d (.int .i64 8))),none⟩])
 (.cond (.tmp 9)
 (.seq
 (.reg [] [⟨some 2,.mov (.cst (.d (.int .i64 5))),none⟩])
 .ret)
 .skip))
 (.seq
 (.reg [0] [⟨some 10,.mkm 0,none⟩,
 ⟨some 3,.mov (.tmp 10),none⟩])
 (.seq
 (.seq
 (.reg [] [⟨some 11,.mov (.tmp 0),none⟩,
 ⟨some 12,.len (.tmp 11),none⟩,
 ⟨some 13,.mov (.cst (.d (.int .i64 0))),none⟩])
 (.post [] [0,1,2]
 (.block 0
 (.keep [3,11,12,13] [0]
 (.loop
 (.post [3,11,12,13] [1,2]
 (.seq
 (.reg [] [⟨some 14,.cmp .lss (.tmp 13) (.tmp 12),none⟩])
 (.seq
 (.cond (.tmp 14)
 .skip
 (.exit 0))
 (.seq
 (.block 1
 (.seq
 (.reg [1] [⟨some 15,.ixa 4 (.tmp 11) (.tmp 13),none⟩,
 ⟨some 16,.ld true 4 (.tmp 15),none⟩,
 ⟨some 5,.alloc 1 [(.d (.str [])),(.d (.int .i64 0)),(.d (.int .i64 0)),(.d (.int .i64 0))],none⟩,
 ⟨none,.st 4 (.tmp 5) (.tmp 16),none⟩])
 (.seq
 (.seq
 (.regd [2] [⟨some 17,.fad 0 (.tmp 5),none⟩,
 ⟨some 18,.ld false 1 (.tmp 17),none⟩,
 ⟨some 19,.call 85 [(.tmp 18)],none⟩,
 ⟨some 20,.not (.tmp 19),none⟩,
 ⟨some 21,.call 69 [(.tmp 20),(.cst (.d (.int .i64 8)))],none⟩,
 ⟨some 22,.mov (.tmp 3),none⟩,
 ⟨some 23,.fad 0 (.tmp 5),none⟩,
 ⟨some 24,.ld false 1 (.tmp 23),none⟩,
 ⟨some 25,.lkp none (.bool false) false (.tmp 22) (.tmp 24),none⟩,
 ⟨some 26,.call 69 [(.tmp 25),(.cst (.d (.int .i64 9)))],none⟩,
 ⟨some 27,.fad 1 (.tmp 5),none⟩,
 ⟨some 28,.ld false 1 (.tmp 27),none⟩,
 ⟨some 29,.call 48 [(.tmp 28),(.cst (.d (.int .i64 0))),(.cst (.d (.int .i64 3)))],none⟩,
 ⟨some 30,.fad 2 (.tmp 5),none⟩,
 ⟨some 31,.ld false 1 (.tmp 30),none⟩,
 ⟨some 32,.call 48 [(.tmp 31),(.cst (.d (.int .i64 0))),(.cst (.d (.int .i64 64)))],none⟩,
 ⟨some 33,.fad 3 (.tmp 5),none⟩,
 ⟨some 34,.ld false 1 (.tmp 33),none⟩,
 ⟨some 35,.call 48 [(.tmp 34),(.cst (.d (.int .i64 0))),(.cst (.d (.int .i64 1000)))],none⟩,
 ⟨some 36,.bsl 2 33 1 5 [(.int .i64 0),(.int .i64 0),(.int .i64 0),(.int .i64 0),(.int .i64 0)] [(0,(.tmp 21)),(1,(.tmp 26)),(2,(.tmp 29)),(3,(.tmp 32)),(4,(.tmp 35))],none⟩,
 ⟨some 37,.call 46 [(.tmp 36)],none⟩,
 ⟨some 6,.mov (.tmp 37),none⟩] [(0,5),(1,5),(2,5),(3,5),(4,5),(0,6),(1,6),(2,6),(3,6),(4,6),(5,6),(0,7),(1,7),(2,7),(3,7),(4,7),(5,7),(0,8),(1,8),(2,8),(3,8),(4,8),(0,10),(1,10),(2,10),(3,10),(4,10),(5,10),(6,10),(7,10),(8,10),(9,10),(0,11),(1,11),(2,11),(3,11),(4,11),(5,11),(6,11),(7,11),(8,11),(9,11),(0,13),(1,13),(2,13),(3,13),(4,13),(5,13),(6,13),(7,13),(8,13),(9,13),(10,13),(11,13),(12,13),(0,14),(1,14),(2,14),(3,14),(4,14),(5,14),(6,14),(7,14),(8,14),(9,14),(10,14),(11,14),(12,14),(0,16),(1,16),(2,16),(3,16),(4,16),(5,16),(6,16),(7,16),(8,16),(9,16),(10,16),(11,16),(12,16),(13,16),(14,16),(15,16),(0,17),(1,17),(2,17),(3,17),(4,17),(5,17),(6,17),(7,17),(8,17),(9,17),(10,17),(11,17),(12,17),(13,17),(14,17),(15,17)])
 (.seq
 (.reg [] [⟨some 38,.mov (.tmp 6),none⟩,
 ⟨some 39,.cmp .neq (.tmp 38) (.cst (.d (.int .i64 0))),none⟩])
 (.cond (.tmp 39)
 (.seq
 (.reg [] [⟨some 40,.mov (.tmp 6),none⟩,
 ⟨some 2,.mov (.tmp 40),none⟩])
 .ret)
 .skip)))
 (.reg [] [⟨some 41,.mov (.tmp 3),none⟩,
 ⟨some 42,.fad 0 (.tmp 5),none⟩,
 ⟨some 43,.ld false 1 (.tmp 42),none⟩,
 ⟨none,.mpu none (.tmp 41) (.tmp 43) (.cst (.d (.bool true))),none⟩]))))
 (.reg [] [⟨some 44,.arith .add .i64 (.tmp 13) (.cst (.d (.int .i64 1))),none⟩,
 ⟨some 13,.mov (.tmp 44),none⟩]))))))))))
 (.seq
 (.reg [] [⟨some 2,.mov (.cst (.d (.int .i64 0))),none⟩])
 .ret)))))⟩
def kmap (l:List Stn) (k:Nat):List (Data × Data):=(nmsTo l k).map fun n=>(.str n,.bool true)
theorem findM_names (s:List UInt8):∀ l:List (List UInt8),findM (.str s) (l.map fun n=>(.str n,.bool true))=if l.contains s then some (.bool true) else none
 | []=>rfl
 | n::r=>by
  show (match dEq (.str s) (.str n) with | true=>some (Data.bool true) | false=>findM (.str s) (r.map fun n=>(.str n,.bool true)))=_
  rw [List.contains_cons,findM_names s r]
  show (match (s==n) with | true=>_ | false=>_)=_
  cases (s==n) <;> simp
theorem putM_names (s:List UInt8):∀ l:List (List UInt8),l.contains s=false→putM (.str s) (.bool true) (l.map fun n=>(.str n,.bool true))=(l++[s]).map fun n=>(.str n,.bool true)
 | [],_=>rfl
 | n::r,h=>by
  rw [List.contains_cons,Bool.or_eq_false_iff] at h
  show (match (s==n) with | true=>_ | false=>_)=_
  rw [h.1]
  show (Data.str n,Data.bool true)::putM (.str s) (.bool true) (r.map fun n=>(.str n,.bool true))=_
  rw [putM_names s r h.2]; rfl
theorem keys_names:∀ l:List (List UInt8),keysOk none (l.map fun n=>(.str n,.bool true))=true
 | []=>rfl
 | n::r=>keys_names r
theorem st_new {l:List Stn} {k:Nat} {x:Stn} (h:(chkSt (nmsTo l k) x != 0)=false):(nmsTo l k).contains x.nm=false:=by
 have h:chkSt (nmsTo l k) x=0:=by simpa using h
 have h2:=firstOf_zero h (bif (nmsTo l k).contains x.nm then 9 else 0) (by simp)
 rcases Bool.eq_false_or_eq_true ((nmsTo l k).contains x.nm) with e | e
 ·rw [e] at h2; cases h2
 ·exact e
set_option maxHeartbeats 4000000 in
theorem c70 (l:List Stn):CallDet Tryz.prog 47 [.d (.slice 4 (stns l))] [.int .i64 (chkStns l)]:=by
 have hlen:=stns_len l
 refine call_of_vc (x:=ir70) (by kernel_rfl) rfl ?_
 refine sd ?_
 refine b_intro ?_ ?_
 ·intro h
  exact st_big (by rw [← hlen]; exact h)
 intro h
 have h:decide ((8:Int) < ((stns l).length:Int))=false:=h
 have h8:l.length≤8:=by have:=of_decide_eq_false h; omega
 rw [hlen] at h
 refine loop_st (fun k:Nat=>⟨[(3,.mp 0),(11,.d (.slice 4 (stns l))),(12,.d (.int .i64 ((stns l).length:Int))),(13,.d (.int .i64 k))],[.mapo (kmap l k),.none,.none]⟩)
  (fun k=>chkStns l=chkGo (nmsTo l k) (l.drop k)) (fun k=>l.length - k) 0 rfl (st_small h) ?_
 intro k hi
 refine sd ?_
 refine b_lt (fun h=>?_) (fun h=>?_)
 ·have h:(k:Int) < ((stns l).length:Int):=h
  refine Exists.elim (⟨_,List.getElem?_eq_getElem (by omega)⟩:∃ x,l[k]?=some x) fun x hx=>?_
  have hd:(stns l)[(k:Int).toNat]?=some x.d:=by simp [stns,hx]
  have hf:findM (.str x.nm) (kmap l k)=if (nmsTo l k).contains x.nm then some (Data.bool true) else none:=findM_names _ _
  have hlk:(∃ y,findM (.str x.nm) (kmap l k)=some y∧[Data.bool ((nmsTo l k).contains x.nm),Data.bool ((nmsTo l k).contains x.nm)]=[y,.bool true])∨(findM (.str x.nm) (kmap l k)=none∧[Data.bool ((nmsTo l k).contains x.nm),Data.bool ((nmsTo l k).contains x.nm)]=[.bool false,.bool false]):=by
   rw [hf]
   rcases Bool.eq_false_or_eq_true ((nmsTo l k).contains x.nm) with e | e
   ·rw [e]; exact .inl ⟨_,rfl,rfl⟩
   ·rw [e]; exact .inr ⟨rfl,rfl⟩
  refine ix_at hd (by omega) ?_
  refine ca (c114 x.nm) ?_
  refine ca (c83 _ _) ?_
  refine Exists.intro [Data.bool ((nmsTo l k).contains x.nm),Data.bool ((nmsTo l k).contains x.nm)] (And.intro ⟨rfl,keys_names _,hlk⟩ ?_)
  refine ca (c83 _ _) ?_
  refine ca (c82 _ _ _) ?_
  refine ca (c82 _ _ _) ?_
  refine ca (c82 _ _ _) ?_
  repeat refine sd ?_
  refine ca (c81 [bif !(isNm x.nm) then 8 else 0,bif (nmsTo l k).contains x.nm then 9 else 0,within3 x.pri 0 3,within3 x.fr 0 64,within3 x.wt 0 1000] (by simp)) ?_
  repeat refine sd ?_
  refine b_intro ?_ ?_
  ·intro hb
   exact st_bad hx hi hb
  ·intro hb
   refine And.intro ⟨rfl,keys_names _⟩ ?_
   refine ar_add (by omega) ?_
   have hp:putM (.str x.nm) (.bool true) (kmap l k)=kmap l (k+1):=by
    unfold kmap
    rw [putM_names _ _ (st_new hb),nmsTo_succ hx]
   refine ⟨k+1,⟨st_ok hx hi hb,by show l.length - (k+1) < l.length - k; omega⟩,?_⟩
   exact congrArg (fun m=>St.mk [(3,.mp 0),(11,.d (.slice 4 (stns l))),(12,.d (.int .i64 ((stns l).length:Int))),(13,.d (.int .i64 ((k:Int)+1)))] [.mapo m,.none,.none]) hp
 ·have h:¬ (k:Int) < ((stns l).length:Int):=h
  exact st_end (by omega) hi
end Vc.L
set_option maxRecDepth 10000
namespace Vc.L
open Go Go.Proofs
def Stn.sum (x:Stn):Int:=x.pri+x.wt
def Stn.ok (x:Stn):Prop:=(0≤x.pri∧x.pri≤3)∧(0≤x.fr∧x.fr≤64)∧(0≤x.wt∧x.wt≤1000)
def better (out:Int) (b x:Stn):Bool:=decide (0 < x.fr)&&(decide (out < 0)||decide (b.sum < x.sum))
def wGo:Int→Stn→Nat→List Stn→Int
 | out,_,_,[]=>out
 | out,b,k,x::r=>bif better out b x then wGo k x (k+1) r else wGo out b (k+1) r
def winF (l:List Stn):Int:=wGo (-1) ⟨[],0,0,0⟩ 0 l
def aheadB (b x:Stn):Bool:=(x.fr==0)||(decide (0 < b.fr)&&decide (x.sum≤b.sum))
def wI (l:List Stn) (a:Nat × Int × Stn):Prop:=winF l=wGo a.2.1 a.2.2 a.1 (l.drop a.1)∧(a.2.1=-1∨(0≤a.2.1∧a.2.1 < a.1∧l[a.2.1.toNat]?=some a.2.2∧0 < a.2.2.fr))
theorem wGo_at {l:List Stn} {k:Nat} {x:Stn} (h:l[k]?=some x) (out:Int) (b:Stn):wGo out b k (l.drop k)=bif better out b x then wGo k x (k+1) (l.drop (k+1)) else wGo out b (k+1) (l.drop (k+1)):=by
 obtain ⟨hl,e⟩:=List.getElem?_eq_some_iff.1 h
 rw [List.drop_eq_getElem_cons hl,e]; rfl
theorem wI_yes {l:List Stn} {k:Nat} {out:Int} {b x:Stn} (h:l[k]?=some x) (hi:wI l (k,out,b)) (hb:better out b x=true):wI l (k+1,(k:Int),x):=by
 obtain ⟨h1,_⟩:=hi
 have h1:winF l=wGo out b k (l.drop k):=h1
 refine ⟨by rw [h1,wGo_at h,hb]; rfl,.inr ⟨by show 0≤(k:Int); omega,by show (k:Int) < ((k+1:Nat):Int); omega,h,?_⟩⟩
 unfold better at hb
 rw [Bool.and_eq_true] at hb
 exact of_decide_eq_true hb.1
theorem wI_no {l:List Stn} {k:Nat} {out:Int} {b x:Stn} (h:l[k]?=some x) (hi:wI l (k,out,b)) (hb:better out b x=false):wI l (k+1,out,b):=by
 obtain ⟨h1,h2⟩:=hi
 have h1:winF l=wGo out b k (l.drop k):=h1
 refine ⟨by rw [h1,wGo_at h,hb]; rfl,?_⟩
 rcases h2 with h2 | ⟨h2,h3,h4,h5⟩
 ·exact .inl h2
 ·have h3:out < (k:Int):=h3
  exact .inr ⟨h2,by show out < ((k+1:Nat):Int); omega,h4,h5⟩
theorem wI_end {l:List Stn} {k:Nat} {out:Int} {b:Stn} (hk:l.length≤k) (hi:wI l (k,out,b)):resV [.int .i64 out]=resV [.int .i64 (winF l)]:=by
 obtain ⟨h1,_⟩:=hi
 have h1:winF l=wGo out b k (l.drop k):=h1
 rw [h1,List.drop_eq_nil_of_le hk]; rfl
theorem wI_start (l:List Stn):wI l (0,-1,⟨[],0,0,0⟩):=⟨rfl,.inl rfl⟩
def ir141:AFun:=⟨26,2,[.tmp 4],
 (.seq
 (.reg [0,1] [⟨some 2,.cbx 0 4 (.tmp 0),none⟩,
 ⟨some 3,.cbx 1 4 (.tmp 1),none⟩,
 ⟨some 4,.mov (.cst (.d (.bool false))),none⟩])
 (.seq
 (.reg [] [⟨some 5,.fad 2 (.tmp 3),none⟩,
 ⟨some 6,.ld false 1 (.tmp 5),none⟩,
 ⟨some 7,.cmp .eql (.tmp 6) (.cst (.d (.int .i64 0))),none⟩,
 ⟨some 8,.mov (.tmp 7),none⟩,
 ⟨some 9,.fad 2 (.tmp 2),some (8,false)⟩,
 ⟨some 10,.ld false 1 (.tmp 9),some (8,false)⟩,
 ⟨some 11,.cmp .gtr (.tmp 10) (.cst (.d (.int .i64 0))),some (8,false)⟩,
 ⟨some 12,.mov (.tmp 11),some (8,false)⟩,
 ⟨some 13,.fad 1 (.tmp 2),some (12,true)⟩,
 ⟨some 14,.ld false 1 (.tmp 13),some (12,true)⟩,
 ⟨some 15,.fad 3 (.tmp 2),some (12,true)⟩,
 ⟨some 16,.ld false 1 (.tmp 15),some (12,true)⟩,
 ⟨some 17,.arith .add .i64 (.tmp 14) (.tmp 16),some (12,true)⟩,
 ⟨some 18,.fad 1 (.tmp 3),some (12,true)⟩,
 ⟨some 19,.ld false 1 (.tmp 18),some (12,true)⟩,
 ⟨some 20,.fad 3 (.tmp 3),some (12,true)⟩,
 ⟨some 21,.ld false 1 (.tmp 20),some (12,true)⟩,
 ⟨some 22,.arith .add .i64 (.tmp 19) (.tmp 21),some (12,true)⟩,
 ⟨some 23,.cmp .geq (.tmp 17) (.tmp 22),some (12,true)⟩,
 ⟨some 24,.pick (.tmp 12) (.tmp 23) (.cst (.d (.bool false))),some (8,false)⟩,
 ⟨some 25,.pick (.tmp 8) (.cst (.d (.bool true))) (.tmp 24),none⟩,
 ⟨some 4,.mov (.tmp 25),none⟩])
 .ret))⟩
def ir107:AFun:=⟨34,1,[.tmp 2],
 (.seq
 (.reg [] [⟨some 2,.mov (.cst (.d (.int .i64 0))),none⟩])
 (.seq
 (.reg [] [⟨some 3,.mov (.cst (.d (.fn (.func 92) []))),none⟩])
 (.seq
 (.reg [] [⟨some 4,.mov (.cst (.d (.int .i64 (-1)))),none⟩])
 (.seq
 (.seq
 (.reg [] [⟨some 7,.mov (.tmp 0),none⟩,
 ⟨some 8,.len (.tmp 7),none⟩,
 ⟨some 9,.mov (.cst (.d (.int .i64 0))),none⟩])
 (.post [4] [0]
 (.block 0
 (.keep [0,3,4,7,8,9] []
 (.loop
 (.post [0,3,4,7,8,9] [0]
 (.seq
 (.reg [] [⟨some 10,.cmp .lss (.tmp 9) (.tmp 8),none⟩])
 (.seq
 (.cond (.tmp 10)
 .skip
 (.exit 0))
 (.seq
 (.block 1
 (.seq
 (.reg [0] [⟨some 11,.mov (.tmp 9),none⟩,
 ⟨some 12,.ixa 4 (.tmp 7) (.tmp 9),none⟩,
 ⟨some 13,.ld true 4 (.tmp 12),none⟩,
 ⟨some 6,.alloc 0 [(.d (.str [])),(.d (.int .i64 0)),(.d (.int .i64 0)),(.d (.int .i64 0))],none⟩,
 ⟨some 5,.mov (.tmp 11),none⟩,
 ⟨none,.st 4 (.tmp 6) (.tmp 13),none⟩])
 (.seq
 (.regd [] [⟨some 14,.fad 2 (.tmp 6),none⟩,
 ⟨some 15,.ld false 1 (.tmp 14),none⟩,
 ⟨some 16,.cmp .gtr (.tmp 15) (.cst (.d (.int .i64 0))),none⟩,
 ⟨some 17,.mov (.tmp 16),none⟩,
 ⟨some 18,.mov (.tmp 4),some (17,true)⟩,
 ⟨some 19,.cmp .lss (.tmp 18) (.cst (.d (.int .i64 0))),some (17,true)⟩,
 ⟨some 20,.mov (.tmp 19),some (17,true)⟩,
 ⟨some 21,.mov (.tmp 3),some (20,false)⟩,
 ⟨some 22,.mov (.tmp 0),some (20,false)⟩,
 ⟨some 23,.mov (.tmp 4),some (20,false)⟩,
 ⟨some 24,.ixa 4 (.tmp 22) (.tmp 23),some (20,false)⟩,
 ⟨some 25,.ld true 4 (.tmp 24),some (20,false)⟩,
 ⟨some 26,.ld true 4 (.tmp 6),some (20,false)⟩,
 ⟨some 27,.callv (.tmp 21) [(.tmp 25),(.tmp 26)],some (20,false)⟩,
 ⟨some 28,.not (.tmp 27),some (20,false)⟩,
 ⟨some 29,.pick (.tmp 20) (.cst (.d (.bool true))) (.tmp 28),some (17,true)⟩,
 ⟨some 30,.pick (.tmp 17) (.tmp 29) (.cst (.d (.bool false))),none⟩] [(7,8),(7,9),(8,9),(7,10),(7,11),(7,12),(8,12),(9,12),(10,12),(11,12)])
 (.cond (.tmp 30)
 (.reg [] [⟨some 31,.mov (.tmp 5),none⟩,
 ⟨some 4,.mov (.tmp 31),none⟩])
 .skip))))
 (.reg [] [⟨some 32,.arith .add .i64 (.tmp 9) (.cst (.d (.int .i64 1))),none⟩,
 ⟨some 9,.mov (.tmp 32),none⟩]))))))))))
 (.seq
 (.reg [] [⟨some 33,.mov (.tmp 4),none⟩,
 ⟨some 2,.mov (.tmp 33),none⟩])
 .ret)))))⟩
def ir64:AFun:=⟨50,0,[.tmp 2],
 (.seq
 (.reg [] [⟨some 2,.mov (.cst (.d (.int .i64 0))),none⟩])
 (.seq
 (.reg [] [⟨some 3,.mov (.cst (.d (.int .i64 (-1)))),none⟩])
 (.seq
 (.seq
 (.reg [] [⟨some 4,.mov (.cst (.d (.int .i64 0))),none⟩])
 (.post [3] []
 (.block 0
 (.keep [0,3,4] []
 (.loop
 (.post [0,3,4] []
 (.seq
 (.seq
 (.reg [] [⟨some 5,.mov (.tmp 4),none⟩,
 ⟨some 6,.mov (.tmp 0),none⟩,
 ⟨some 7,.len (.tmp 6),none⟩,
 ⟨some 8,.cmp .lss (.tmp 5) (.tmp 7),none⟩])
 (.cond (.tmp 8)
 .skip
 (.exit 0)))
 (.seq
 (.block 1
 (.seq
 (.regd [] [⟨some 11,.mov (.tmp 0),none⟩,
 ⟨some 12,.mov (.tmp 4),none⟩,
 ⟨some 13,.ixa 4 (.tmp 11) (.tmp 12),none⟩,
 ⟨some 14,.fad 2 (.tmp 13),none⟩,
 ⟨some 15,.ld false 1 (.tmp 14),none⟩,
 ⟨some 16,.cmp .gtr (.tmp 15) (.cst (.d (.int .i64 0))),none⟩,
 ⟨some 17,.mov (.tmp 16),none⟩,
 ⟨some 18,.mov (.tmp 3),some (17,true)⟩,
 ⟨some 19,.cmp .lss (.tmp 18) (.cst (.d (.int .i64 0))),some (17,true)⟩,
 ⟨some 20,.mov (.tmp 19),some (17,true)⟩,
 ⟨some 21,.mov (.tmp 0),some (20,false)⟩,
 ⟨some 22,.mov (.tmp 4),some (20,false)⟩,
 ⟨some 23,.ixa 4 (.tmp 21) (.tmp 22),some (20,false)⟩,
 ⟨some 24,.fad 1 (.tmp 23),some (20,false)⟩,
 ⟨some 25,.ld false 1 (.tmp 24),some (20,false)⟩,
 ⟨some 26,.mov (.tmp 0),some (20,false)⟩,
 ⟨some 27,.mov (.tmp 4),some (20,false)⟩,
 ⟨some 28,.ixa 4 (.tmp 26) (.tmp 27),some (20,false)⟩,
 ⟨some 29,.fad 3 (.tmp 28),some (20,false)⟩,
 ⟨some 30,.ld false 1 (.tmp 29),some (20,false)⟩,
 ⟨some 31,.arith .add .i64 (.tmp 25) (.tmp 30),some (20,false)⟩,
 ⟨some 32,.mov (.tmp 0),some (20,false)⟩,
 ⟨some 33,.mov (.tmp 3),some (20,false)⟩,
 ⟨some 34,.maxi (.cst (.d (.int .i64 0))) (.tmp 33),some (20,false)⟩,
 ⟨some 35,.ixa 4 (.tmp 32) (.tmp 34),some (20,false)⟩,
 ⟨some 36,.fad 1 (.tmp 35),some (20,false)⟩,
 ⟨some 37,.ld false 1 (.tmp 36),some (20,false)⟩,
 ⟨some 38,.mov (.tmp 0),some (20,false)⟩,
 ⟨some 39,.mov (.tmp 3),some (20,false)⟩,
 ⟨some 40,.maxi (.cst (.d (.int .i64 0))) (.tmp 39),some (20,false)⟩,
 ⟨some 41,.ixa 4 (.tmp 38) (.tmp 40),some (20,false)⟩,
 ⟨some 42,.fad 3 (.tmp 41),some (20,false)⟩,
 ⟨some 43,.ld false 1 (.tmp 42),some (20,false)⟩,
 ⟨some 44,.arith .add .i64 (.tmp 37) (.tmp 43),some (20,false)⟩,
 ⟨some 45,.cmp .gtr (.tmp 31) (.tmp 44),some (20,false)⟩,
 ⟨some 46,.pick (.tmp 20) (.cst (.d (.bool true))) (.tmp 45),some (17,true)⟩,
 ⟨some 47,.pick (.tmp 17) (.tmp 46) (.cst (.d (.bool false))),none⟩] [(0,1),(10,11),(10,15),(11,15),(12,15),(13,15),(14,15),(10,16),(11,16),(12,16),(13,16),(14,16),(15,16),(10,17),(11,17),(12,17),(13,17),(14,17),(10,18),(11,18),(12,18),(13,18),(14,18),(10,19),(11,19),(12,19),(13,19),(14,19),(10,21),(11,21),(12,21),(13,21),(14,21),(15,21),(16,21),(17,21),(18,21),(19,21),(20,21),(10,22),(11,22),(12,22),(13,22),(14,22),(15,22),(16,22),(17,22),(18,22),(19,22),(20,22),(21,22),(10,23),(11,23),(12,23),(13,23),(14,23),(15,23),(16,23),(17,23),(18,23),(19,23),(20,23),(21,23),(10,24),(11,24),(12,24),(13,24),(14,24),(15,24),(16,24),(17,24),(18,24),(19,24),(20,24),(10,25),(11,25),(12,25),(13,25),(14,25),(15,25),(16,25),(17,25),(18,25),(19,25),(20,25),(10,26),(11,26),(12,26),(13,26),(14,26),(15,26),(16,26),(17,26),(18,26),(19,26),(20,26),(10,27),(11,27),(12,27),(13,27),(14,27),(15,27),(16,27),(17,27),(18,27),(19,27),(20,27),(21,27),(22,27),(23,27),(24,27),(25,27),(26,27),(10,28),(11,28),(12,28),(13,28),(14,28),(15,28),(16,28),(17,28),(18,28),(19,28),(20,28),(21,28),(22,28),(23,28),(24,28),(25,28),(26,28),(27,28),(10,29),(11,29),(12,29),(13,29),(14,29),(15,29),(16,29),(17,29),(18,29),(19,29),(20,29),(21,29),(22,29),(23,29),(24,29),(25,29),(26,29),(27,29),(10,30),(11,30),(12,30),(13,30),(14,30),(15,30),(16,30),(17,30),(18,30),(19,30),(20,30),(21,30),(22,30),(23,30),(24,30),(25,30),(26,30),(10,31),(11,31),(12,31),(13,31),(14,31),(15,31),(16,31),(17,31),(18,31),(19,31),(20,31),(21,31),(22,31),(23,31),(24,31),(25,31),(26,31),(10,32),(11,32),(12,32),(13,32),(14,32),(15,32),(16,32),(17,32),(18,32),(19,32),(20,32),(21,32),(22,32),(23,32),(24,32),(25,32),(26,32),(10,33),(11,33),(12,33),(13,33),(14,33),(15,33),(16,33),(17,33),(18,33),(19,33),(20,33)])
 (.cond (.tmp 47)
 (.reg [] [⟨some 48,.mov (.tmp 4),none⟩,
 ⟨some 3,.mov (.tmp 48),none⟩])
 .skip)))
 (.reg [] [⟨some 9,.mov (.tmp 4),none⟩,
 ⟨some 10,.arith .add .i64 (.tmp 9) (.cst (.d (.int .i64 1))),none⟩,
 ⟨some 4,.mov (.tmp 10),none⟩])))))))))
 (.seq
 (.reg [] [⟨some 49,.mov (.tmp 3),none⟩,
 ⟨some 2,.mov (.tmp 49),none⟩])
 .ret))))⟩
theorem c141 (b x:Stn) (hb:b.ok) (hx:x.ok):CallDet Tryz.prog 92 [.d b.d,.d x.d] [.bool (aheadB b x)]:=by
 obtain ⟨⟨b1,b2⟩,_,b3,b4⟩:=hb
 obtain ⟨⟨x1,x2⟩,_,x3,x4⟩:=hx
 have fin:∀ v:Bool,aheadB b x=v→resV [.bool v]=resV [.bool (aheadB b x)]:=fun v h=>by rw [h]
 refine call_of_vc (x:=ir141) (by kernel_rfl) rfl ?_
 refine sd ?_
 refine b_intro ?_ ?_
 ·intro h
  have h:(x.fr==0)=true:=h
  repeat refine sd ?_
  exact fin true (by unfold aheadB; rw [h]; rfl)
 intro h
 have h:(x.fr==0)=false:=h
 refine sd ?_
 refine b_intro ?_ ?_
 ·intro h2
  have h2:decide (0 < b.fr)=true:=h2
  refine ar_add (by omega) ?_
  refine ar_add (by omega) ?_
  repeat refine sd ?_
  exact fin _ (by unfold aheadB; rw [h,h2]; rfl)
 ·intro h2
  have h2:decide (0 < b.fr)=false:=h2
  repeat refine sd ?_
  exact fin false (by unfold aheadB; rw [h,h2]; rfl)
set_option maxHeartbeats 4000000 in
theorem c107 (l:List Stn) (hl:l.length≤1048576) (ho:∀ x∈l,x.ok):CallDet Tryz.prog 50 [.d (.slice 4 (stns l))] [.int .i64 (winF l)]:=by
 have hlen:=stns_len l
 refine call_of_vc (x:=ir107) (by kernel_rfl) rfl ?_
 refine loop_st (fun a:Nat × Int × Stn=>⟨[(0,.d (.slice 4 (stns l))),(3,.d (.fn (.func 92) [])),(4,.d (.int .i64 a.2.1)),(7,.d (.slice 4 (stns l))),(8,.d (.int .i64 ((stns l).length:Int))),(9,.d (.int .i64 a.1))],[.none]⟩)
  (wI l) (fun a=>l.length - a.1) (0,-1,⟨[],0,0,0⟩) rfl (wI_start l) ?_
 rintro ⟨k,out,b⟩ hi
 refine sd ?_
 refine b_lt (fun h=>?_) (fun h=>?_)
 ·have h:(k:Int) < ((stns l).length:Int):=h
  refine Exists.elim (⟨_,List.getElem?_eq_getElem (by omega)⟩:∃ x,l[k]?=some x) fun x hx=>?_
  have hd:(stns l)[(k:Int).toNat]?=some x.d:=by simp [stns,hx]
  have hxo:=ho x (List.mem_of_getElem? hx)
  have hb1:-9223372036854775808≤(k:Int)+1∧(k:Int)+1≤9223372036854775807:=by omega
  have yes:better out b x=true→∃ a':Nat × Int × Stn,(wI l a'∧l.length - a'.1 < l.length - k)∧(⟨[(0,.d (.slice 4 (stns l))),(3,.d (.fn (.func 92) [])),(4,.d (.int .i64 (k:Int))),(7,.d (.slice 4 (stns l))),(8,.d (.int .i64 ((stns l).length:Int))),(9,.d (.int .i64 ((k:Int)+1)))],[.none]⟩:St)=⟨[(0,.d (.slice 4 (stns l))),(3,.d (.fn (.func 92) [])),(4,.d (.int .i64 a'.2.1)),(7,.d (.slice 4 (stns l))),(8,.d (.int .i64 ((stns l).length:Int))),(9,.d (.int .i64 a'.1))],[.none]⟩:=fun e =>
   ⟨(k+1,(k:Int),x),⟨wI_yes hx hi e,by show l.length - (k+1) < l.length - k; omega⟩,rfl⟩
  have no:better out b x=false→∃ a':Nat × Int × Stn,(wI l a'∧l.length - a'.1 < l.length - k)∧(⟨[(0,.d (.slice 4 (stns l))),(3,.d (.fn (.func 92) [])),(4,.d (.int .i64 out)),(7,.d (.slice 4 (stns l))),(8,.d (.int .i64 ((stns l).length:Int))),(9,.d (.int .i64 ((k:Int)+1)))],[.none]⟩:St)=⟨[(0,.d (.slice 4 (stns l))),(3,.d (.fn (.func 92) [])),(4,.d (.int .i64 a'.2.1)),(7,.d (.slice 4 (stns l))),(8,.d (.int .i64 ((stns l).length:Int))),(9,.d (.int .i64 a'.1))],[.none]⟩:=fun e =>
   ⟨(k+1,out,b),⟨wI_no hx hi e,by show l.length - (k+1) < l.length - k; omega⟩,rfl⟩
  refine ix_at hd (by omega) ?_
  refine sd ?_
  refine b_lt (fun h1=>?_) (fun h1=>?_)
  ·have h1:0 < x.fr:=h1
   refine sd ?_
   refine b_lt (fun h2=>?_) (fun h2=>?_)
   ·have h2:out < 0:=h2
    repeat refine sd ?_
    refine ar_add hb1 ?_
    exact yes (by unfold better; rw [decide_eq_true h1,decide_eq_true h2]; rfl)
   ·have h2:¬ out < 0:=h2
    refine Exists.elim (show ∃ u:Unit,0≤out∧l[out.toNat]?=some b∧0 < b.fr from ⟨(),by obtain ⟨_,h3 | ⟨h3,_,h4,h5⟩⟩:=hi; exact absurd h3 (by show ¬ out=-1; omega); exact ⟨h3,h4,h5⟩⟩) fun _ h3=>?_
    have hdo:(stns l)[out.toNat]?=some b.d:=by simp [stns,h3.2.1]
    refine ix_at hdo h3.1 ?_
    refine ca (c141 b x (ho b (List.mem_of_getElem? h3.2.1)) hxo) ?_
    have hbt:better out b x=!(aheadB b x):=by
     unfold better aheadB
     rw [decide_eq_true h1,decide_eq_false h2,decide_eq_true h3.2.2,show (x.fr==0)=false by rw [beq_eq_false_iff_ne]; omega]
     show decide (b.sum < x.sum)=!decide (x.sum≤b.sum)
     rcases Int.lt_or_le b.sum x.sum with e | e
     ·rw [decide_eq_true e,decide_eq_false (by omega)]; rfl
     ·rw [decide_eq_false (by omega),decide_eq_true (by omega)]; rfl
    repeat refine sd ?_
    refine b_intro ?_ ?_
    ·intro e
     refine ar_add hb1 ?_
     exact yes (hbt.trans e)
    ·intro e
     refine ar_add hb1 ?_
     exact no (hbt.trans e)
  ·have h1:¬ 0 < x.fr:=h1
   repeat refine sd ?_
   refine ar_add hb1 ?_
   exact no (by unfold better; rw [decide_eq_false h1]; rfl)
 ·have h:¬ (k:Int) < ((stns l).length:Int):=h
  exact wI_end (by omega) hi
end Vc.L
set_option maxRecDepth 10000
namespace Vc.L
open Go Go.Proofs
def stnAft (k w:Int) (x:Stn):Stn:=bif k==w then ⟨x.nm,x.pri,x.fr - 1,0⟩ else bif decide (0 < x.fr) then ⟨x.nm,x.pri,x.fr,min 1000 (x.wt+1)⟩ else ⟨x.nm,x.pri,x.fr,0⟩
def aftGo (w:Int):Nat→List Stn→List Stn
 | _,[]=>[]
 | k,x::r=>stnAft k w x::aftGo w (k+1) r
def aftF (l:List Stn) (w:Int):List Stn:=aftGo w 0 l
theorem aftGo_len (w:Int):∀ (l:List Stn) (k:Nat),(aftGo w k l).length=l.length
 | [],_=>rfl
 | x::r,k=>by simp [aftGo,aftGo_len w r (k+1)]
theorem aftGo_at (w:Int):∀ (l:List Stn) (j k:Nat) {x:Stn},l[k]?=some x→(aftGo w j l)[k]?=some (stnAft ((j+k:Nat):Int) w x)
 | [],_,_,_,h=>by simp at h
 | y::r,j,0,x,h=>by
  simp only [List.getElem?_cons_zero,Option.some.injEq] at h
  subst h
  rfl
 | y::r,j,k+1,x,h=>by
  simp only [List.getElem?_cons_succ] at h
  show (aftGo w (j+1) r)[k]?=_
  rw [aftGo_at w r (j+1) k h,show j+1+k=j+(k+1) by omega]
def mixF (l:List Stn) (w:Int) (k:Nat):List Stn:=(aftF l w).take k++l.drop k
theorem aft_at {l:List Stn} {w:Int} {k:Nat} {x:Stn} (h:l[k]?=some x):(aftF l w)[k]?=some (stnAft k w x):=by
 rw [aftF,aftGo_at w l 0 k h,Nat.zero_add]
theorem aft_len (l:List Stn) (w:Int):(aftF l w).length=l.length:=aftGo_len w l 0
theorem mix_len {l:List Stn} {w:Int} {k:Nat} (h:k≤l.length):(mixF l w k).length=l.length:=by
 rw [mixF,List.length_append,List.length_take,List.length_drop,aft_len]; omega
theorem mix_at {l:List Stn} {w:Int} {k:Nat} {x:Stn} (h:l[k]?=some x):(mixF l w k)[k]?=some x:=by
 obtain ⟨hl,_⟩:=List.getElem?_eq_some_iff.1 h
 rw [mixF,List.getElem?_append_right (by rw [List.length_take]; omega),List.length_take,aft_len,show k - min k l.length=0 by omega,List.getElem?_drop]; exact h
theorem mix_step {l:List Stn} {w:Int} {k:Nat} {x:Stn} (h:l[k]?=some x):(mixF l w k).set k (stnAft k w x)=mixF l w (k+1):=by
 obtain ⟨hl,_⟩:=List.getElem?_eq_some_iff.1 h
 apply List.ext_getElem?
 intro j
 have hlm:(mixF l w k).length=l.length:=mix_len (by omega)
 by_cases e:k=j
 ·subst e
  rw [List.getElem?_set_self (by omega),mixF,List.getElem?_append_left (by rw [List.length_take,aft_len]; omega),List.getElem?_take,if_pos (by omega),aft_at h]
 ·rw [List.getElem?_set_ne e]
  rcases Nat.lt_or_ge j k with h1 | h1
  ·rw [mixF,mixF,List.getElem?_append_left (by rw [List.length_take,aft_len]; omega),List.getElem?_append_left (by rw [List.length_take,aft_len]; omega),List.getElem?_take,List.getElem?_take,if_pos (by omega),if_pos (by omega)]
  ·rw [mixF,mixF,List.getElem?_append_right (by rw [List.length_take]; omega),List.getElem?_append_right (by rw [List.length_take]; omega),List.length_take,List.length_take,aft_len,List.getElem?_drop,List.getElem?_drop]
   congr 1; omega
theorem mixd_step {l:List Stn} {w:Int} {k:Nat} {x:Stn} (h:l[k]?=some x):(stns (mixF l w k)).set k (stnAft k w x).d=stns (mixF l w (k+1)):=by
 rw [← mix_step h]; simp [stns,List.map_set]
theorem mix_end {l:List Stn} {w:Int} {k:Nat} (hk:l.length≤k):mixF l w k=aftF l w:=by
 rw [mixF,List.drop_eq_nil_of_le hk,List.append_nil,List.take_of_length_le (by rw [aft_len]; exact hk)]
theorem aft1 {k:Nat} {w:Int} {x:Stn} (h:((k:Int)==w)=true):stnAft k w x=⟨x.nm,x.pri,x.fr - 1,0⟩:=by unfold stnAft; rw [h]; rfl
theorem aft2 {k:Nat} {w:Int} {x:Stn} (h:((k:Int)==w)=false) (h2:¬ 0 < x.fr):stnAft k w x=⟨x.nm,x.pri,x.fr,0⟩:=by unfold stnAft; rw [h,decide_eq_false h2]; rfl
theorem aft3 {k:Nat} {w:Int} {x:Stn} (h:((k:Int)==w)=false) (h2:0 < x.fr):stnAft k w x=⟨x.nm,x.pri,x.fr,min 1000 (x.wt+1)⟩:=by unfold stnAft; rw [h,decide_eq_true h2]; rfl
def ir108:AFun:=⟨8,2,[.tmp 2],
 (.seq
 (.reg [] [⟨some 2,.mov (.cst (.nils 4)),none⟩])
 (.seq
 (.seq
 (.reg [] [⟨some 3,.mov (.tmp 0),none⟩,
 ⟨some 4,.isnil false (.tmp 3),none⟩])
 (.cond (.tmp 4)
 (.seq
 (.reg [] [⟨some 2,.mov (.cst (.nils 4)),none⟩])
 .ret)
 .skip))
 (.seq
 (.reg [0,1] [⟨some 5,.bsl 0 54 4 0 [] [],none⟩,
 ⟨some 6,.mov (.tmp 0),none⟩,
 ⟨some 7,.app 1 54 4 40 (.tmp 5) (.tmp 6),none⟩,
 ⟨some 2,.mov (.tmp 7),none⟩])
 .ret)))⟩
def ir109:AFun:=⟨48,2,[.tmp 4],
 (.seq
 (.reg [] [⟨some 4,.mov (.cst (.nils 4)),none⟩])
 (.seq
 (.reg [] [⟨some 8,.mov (.tmp 0),none⟩,
 ⟨some 9,.calln 1 54 4 49 [(.tmp 8)],none⟩,
 ⟨some 5,.mov (.tmp 9),none⟩])
 (.seq
 (.seq
 (.reg [] [⟨some 10,.mov (.tmp 0),none⟩,
 ⟨some 11,.len (.tmp 10),none⟩,
 ⟨some 12,.mov (.cst (.d (.int .i64 0))),none⟩])
 (.post [5] [0]
 (.block 0
 (.keep [1,5,10,11,12] []
 (.loop
 (.post [1,5,10,11,12] [0]
 (.seq
 (.reg [] [⟨some 13,.cmp .lss (.tmp 12) (.tmp 11),none⟩])
 (.seq
 (.cond (.tmp 13)
 .skip
 (.exit 0))
 (.seq
 (.block 1
 (.seq
 (.reg [0] [⟨some 14,.mov (.tmp 12),none⟩,
 ⟨some 15,.ixa 4 (.tmp 10) (.tmp 12),none⟩,
 ⟨some 16,.ld true 4 (.tmp 15),none⟩,
 ⟨some 7,.alloc 0 [(.d (.str [])),(.d (.int .i64 0)),(.d (.int .i64 0)),(.d (.int .i64 0))],none⟩,
 ⟨some 6,.mov (.tmp 14),none⟩,
 ⟨none,.st 4 (.tmp 7) (.tmp 16),none⟩])
 (.seq
 (.block 2
 (.seq
 (.reg [] [⟨some 23,.mov (.tmp 6),none⟩,
 ⟨some 24,.mov (.tmp 1),none⟩,
 ⟨some 25,.cmp .eql (.tmp 23) (.tmp 24),none⟩,
 ⟨some 22,.mov (.tmp 25),none⟩])
 (.cond (.tmp 22)
 (.reg [] [⟨some 26,.fad 2 (.tmp 7),none⟩,
 ⟨some 27,.ld false 1 (.tmp 26),none⟩,
 ⟨some 28,.arith .sub .i64 (.tmp 27) (.cst (.d (.int .i64 1))),none⟩,
 ⟨some 29,.fad 2 (.tmp 7),none⟩,
 ⟨none,.st 1 (.tmp 29) (.tmp 28),none⟩,
 ⟨some 30,.fad 3 (.tmp 7),none⟩,
 ⟨none,.st 1 (.tmp 30) (.cst (.d (.int .i64 0))),none⟩])
 (.seq
 (.reg [] [⟨some 32,.ld true 4 (.tmp 7),none⟩,
 ⟨some 33,.fad 0 (.tmp 7),none⟩,
 ⟨some 34,.ld false 1 (.tmp 33),none⟩,
 ⟨some 35,.fad 1 (.tmp 7),none⟩,
 ⟨some 36,.ld false 1 (.tmp 35),none⟩,
 ⟨some 37,.fad 3 (.tmp 7),none⟩,
 ⟨some 38,.ld false 1 (.tmp 37),none⟩,
 ⟨some 39,.build [(.d (.str [])),(.d (.int .i64 0)),(.d (.int .i64 0)),(.d (.int .i64 0))] [(0,1,(.tmp 34)),(1,1,(.tmp 36)),(2,1,(.cst (.d (.int .i64 0)))),(3,1,(.tmp 38))],none⟩,
 ⟨some 40,.aeq false [2,0,0,0] (.tmp 32) (.tmp 39),none⟩,
 ⟨some 31,.mov (.tmp 40),none⟩])
 (.cond (.tmp 31)
 (.reg [] [⟨some 41,.fad 3 (.tmp 7),none⟩,
 ⟨none,.st 1 (.tmp 41) (.cst (.d (.int .i64 0))),none⟩])
 (.reg [] [⟨some 17,.fad 3 (.tmp 7),none⟩,
 ⟨some 18,.ld false 1 (.tmp 17),none⟩,
 ⟨some 19,.arith .add .i64 (.tmp 18) (.cst (.d (.int .i64 1))),none⟩,
 ⟨some 20,.mini (.cst (.d (.int .i64 1000))) (.tmp 19),none⟩,
 ⟨some 21,.fad 3 (.tmp 7),none⟩,
 ⟨none,.st 1 (.tmp 21) (.tmp 20),none⟩]))))))
 (.reg [] [⟨some 42,.mov (.tmp 5),none⟩,
 ⟨some 43,.mov (.tmp 6),none⟩,
 ⟨some 44,.ld true 4 (.tmp 7),none⟩,
 ⟨some 45,.ixa 4 (.tmp 42) (.tmp 43),none⟩,
 ⟨none,.st 4 (.tmp 45) (.tmp 44),none⟩]))))
 (.reg [] [⟨some 46,.arith .add .i64 (.tmp 12) (.cst (.d (.int .i64 1))),none⟩,
 ⟨some 12,.mov (.tmp 46),none⟩]))))))))))
 (.seq
 (.reg [] [⟨some 47,.mov (.tmp 5),none⟩,
 ⟨some 4,.mov (.tmp 47),none⟩])
 .ret))))⟩
theorem c108r (l:List Data) (hl:l.length≤1048576):CallRow Tryz.prog 49 [.d (.slice 4 l)] 54 4 l:=by
 refine callRow_of_vc (x:=ir108) (by kernel_rfl) rfl ?_
 refine an ?_ ?_
 ·intro h
  subst h
  exact .inr ⟨by decide,rfl,4,⟨rfl,rfl⟩⟩
 ·refine sd ?_
  refine sd ?_
  refine And.intro ⟨rfl,rfl,rfl,?_,?_⟩ ?_
  ·show (0+l.length) * 40≤2 ^ 47
   omega
  ·show 0+l.length≤2 ^ 47
   omega
  exact .inl ⟨0,⟨rfl,rfl⟩,rfl⟩
theorem ag {l:List Stn} {w:Int} {p:List Stn} (h:p=aftF l w):resV [.slice 4 (stns p)]=resV [.slice 4 (stns (aftF l w))]:=by rw [h]
set_option maxHeartbeats 4000000 in
theorem c109 (l:List Stn) (w:Int) (hl:l.length≤1048576) (ho:∀ x∈l,x.ok):CallDet Tryz.prog 51 [.d (.slice 4 (stns l)),.d (.int .i64 w)] [.slice 4 (stns (aftF l w))]:=by
 have hlen:=stns_len l
 refine call_of_vc (x:=ir109) (by kernel_rfl) rfl ?_
 refine ca (c108r (stns l) (by omega)) ?_
 refine loop_st (fun k:Nat=>⟨[(1,.d (.int .i64 w)),(5,.sl 1 (stns l).length),(10,.d (.slice 4 (stns l))),(11,.d (.int .i64 ((stns l).length:Int))),(12,.d (.int .i64 k))],[.none,.row 54 4 (stns (mixF l w k)) false]⟩)
  (fun k=>k≤l.length) (fun k=>l.length - k) 0 rfl (Nat.zero_le _) ?_
 intro k hk
 have hml:(stns (mixF l w k)).length=(stns l).length:=by rw [stns_len,stns_len,mix_len hk]
 refine sd ?_
 refine b_lt (fun h=>?_) (fun h=>?_)
 ·have h:(k:Int) < ((stns l).length:Int):=h
  refine Exists.elim (⟨_,List.getElem?_eq_getElem (by omega)⟩:∃ x,l[k]?=some x) fun x hx=>?_
  have hd:(stns l)[(k:Int).toNat]?=some x.d:=by simp [stns,hx]
  have hdm:(stns (mixF l w k))[(k:Int).toNat]?=some x.d:=by
   show ((mixF l w k).map Stn.d)[k]?=_
   rw [List.getElem?_map,mix_at hx]; rfl
  obtain ⟨_,⟨hf1,hf2⟩,hw1,hw2⟩:=ho x (List.mem_of_getElem? hx)
  have hb1:-9223372036854775808≤(k:Int)+1∧(k:Int)+1≤9223372036854775807:=by omega
  have fin:∀ y:Stn,stnAft k w x=y→∃ a':Nat,(a'≤l.length∧l.length - a' < l.length - k)∧(⟨[(1,.d (.int .i64 w)),(5,.sl 1 (stns l).length),(10,.d (.slice 4 (stns l))),(11,.d (.int .i64 ((stns l).length:Int))),(12,.d (.int .i64 ((k:Int)+1)))],[.none,.row 54 4 ((stns (mixF l w k)).set (k:Int).toNat y.d) false]⟩:St)=⟨[(1,.d (.int .i64 w)),(5,.sl 1 (stns l).length),(10,.d (.slice 4 (stns l))),(11,.d (.int .i64 ((stns l).length:Int))),(12,.d (.int .i64 a'))],[.none,.row 54 4 (stns (mixF l w a')) false]⟩:=fun y e=>by
   refine ⟨k+1,⟨by omega,by omega⟩,?_⟩
   rw [← e,← mixd_step hx]; rfl
  refine ix_at hd (by omega) ?_
  repeat refine sd ?_
  refine b_intro ?_ ?_
  ·intro e
   have e:((k:Int)==w)=true:=e
   refine ar_sub (by omega) ?_
   repeat refine sd ?_
   refine And.intro ⟨rfl,hml,by omega,h⟩ ?_
   refine Exists.intro _ (Exists.intro (⟨x.nm,x.pri,x.fr - 1,0⟩:Stn).d (And.intro ⟨hml,hdm,rfl,Nat.le_refl 4,rfl,rfl⟩ ?_))
   refine ar_add hb1 ?_
   exact fin _ (aft1 e)
  ·intro e
   have e:((k:Int)==w)=false:=e
   have heq:eqCells [2,0,0,0] [.d (.str x.nm),.d (.int .i64 x.pri),.d (.int .i64 x.fr),.d (.int .i64 x.wt)] [.d (.str x.nm),.d (.int .i64 x.pri),.d (.int .i64 0),.d (.int .i64 x.wt)]=some (x.fr==0):=by simp [eqCells]
   refine Exists.intro (.bool (x.fr==0)) (And.intro ⟨x.fr==0,heq,rfl⟩ ?_)
   refine b_eq (fun e2=>?_) (fun e2=>?_)
   ·have e2:x.fr=0:=e2
    refine And.intro ⟨rfl,hml,by omega,h⟩ ?_
    refine Exists.intro _ (Exists.intro (⟨x.nm,x.pri,x.fr,0⟩:Stn).d (And.intro ⟨hml,hdm,rfl,Nat.le_refl 4,rfl,rfl⟩ ?_))
    refine ar_add hb1 ?_
    exact fin _ (aft2 e (by omega))
   ·have e2:¬ x.fr=0:=e2
    refine ar_add (by omega) ?_
    repeat refine sd ?_
    refine And.intro ⟨rfl,hml,by omega,h⟩ ?_
    refine Exists.intro _ (Exists.intro (⟨x.nm,x.pri,x.fr,min 1000 (x.wt+1)⟩:Stn).d (And.intro ⟨hml,hdm,rfl,Nat.le_refl 4,rfl,rfl⟩ ?_))
    refine ar_add hb1 ?_
    exact fin _ (aft3 e (by omega))
 ·have h:¬ (k:Int) < ((stns l).length:Int):=h
  refine And.intro hml ?_
  exact ag (mix_end (by omega))
end Vc.L
set_option maxRecDepth 10000
namespace Vc.L
open Go Go.Proofs
theorem within_ok {n a b:Int} (h:within3 n a b=0):a≤n∧n≤b:=by
 unfold within3 at h
 rcases Bool.eq_false_or_eq_true (decide (n < a)||decide (b < n)) with e | e
 ·rw [e] at h; cases h
 ·rw [Bool.or_eq_false_iff] at e
  have:=of_decide_eq_false e.1
  have:=of_decide_eq_false e.2
  omega
def srvGo:Nat→List Stn→List Int × List Stn
 | 0,l=>([],l)
 | n+1,l=>bif decide (winF l < 0) then ([],l) else (winF l::(srvGo n (aftF l (winF l))).1,(srvGo n (aftF l (winF l))).2)
end Vc.L
set_option maxRecDepth 10000
namespace Vc.L
open Go Go.Proofs
def ir53:AFun:=⟨20,0,[.tmp 2],
 (.seq
 (.reg [] [⟨some 2,.mov (.cst (.d (.bool false))),none⟩])
 (.seq
 (.seq
 (.reg [] [⟨some 3,.mov (.cst (.d (.int .i64 0))),none⟩])
 (.post [0] []
 (.block 0
 (.keep [0,3] []
 (.loop
 (.post [0,3] []
 (.seq
 (.seq
 (.reg [] [⟨some 4,.mov (.tmp 3),none⟩,
 ⟨some 5,.mov (.tmp 0),none⟩,
 ⟨some 6,.len (.tmp 5),none⟩,
 ⟨some 7,.cmp .lss (.tmp 4) (.tmp 6),none⟩])
 (.cond (.tmp 7)
 .skip
 (.exit 0)))
 (.seq
 (.block 1
 (.seq
 (.reg [] [⟨some 10,.mov (.tmp 0),none⟩,
 ⟨some 11,.mov (.tmp 3),none⟩,
 ⟨some 12,.ixa 4 (.tmp 10) (.tmp 11),none⟩,
 ⟨some 13,.fad 0 (.tmp 12),none⟩,
 ⟨some 14,.ld false 1 (.tmp 13),none⟩,
 ⟨some 15,.lens (.tmp 14),none⟩,
 ⟨some 16,.cmp .gtr (.tmp 15) (.cst (.d (.int .i64 40))),none⟩])
 (.cond (.tmp 16)
 (.seq
 (.reg [] [⟨some 2,.mov (.cst (.d (.bool false))),none⟩])
 .ret)
 .skip)))
 (.reg [] [⟨some 8,.mov (.tmp 3),none⟩,
 ⟨some 9,.arith .add .i64 (.tmp 8) (.cst (.d (.int .i64 1))),none⟩,
 ⟨some 3,.mov (.tmp 9),none⟩])))))))))
 (.seq
 (.reg [] [⟨some 17,.mov (.tmp 0),none⟩,
 ⟨some 18,.len (.tmp 17),none⟩,
 ⟨some 19,.cmp .leq (.tmp 18) (.cst (.d (.int .i64 9))),none⟩,
 ⟨some 2,.mov (.tmp 19),none⟩])
 .ret)))⟩
def ir54:AFun:=⟨16,0,[.tmp 2,.tmp 3],
 (.seq
 (.reg [] [⟨some 2,.mov (.cst (.d (.int .i64 0))),none⟩,
 ⟨some 3,.mov (.cst (.d (.int .i64 0))),none⟩])
 (.seq
 (.seq
 (.reg [] [⟨some 6,.mov (.tmp 0),none⟩,
 ⟨some 7,.call 47 [(.tmp 6)],none⟩,
 ⟨some 4,.mov (.tmp 7),none⟩])
 (.seq
 (.reg [] [⟨some 8,.mov (.tmp 4),none⟩,
 ⟨some 9,.cmp .neq (.tmp 8) (.cst (.d (.int .i64 0))),none⟩])
 (.cond (.tmp 9)
 (.seq
 (.reg [] [⟨some 10,.mov (.tmp 4),none⟩,
 ⟨some 2,.mov (.cst (.d (.int .i64 0))),none⟩,
 ⟨some 3,.mov (.tmp 10),none⟩])
 .ret)
 .skip)))
 (.seq
 (.reg [] [⟨some 11,.mov (.tmp 0),none⟩,
 ⟨some 12,.call 50 [(.tmp 11)],none⟩,
 ⟨some 5,.mov (.tmp 12),none⟩])
 (.seq
 (.seq
 (.reg [] [⟨some 13,.mov (.tmp 5),none⟩,
 ⟨some 14,.cmp .lss (.tmp 13) (.cst (.d (.int .i64 0))),none⟩])
 (.cond (.tmp 14)
 (.seq
 (.reg [] [⟨some 2,.mov (.cst (.d (.int .i64 0))),none⟩,
 ⟨some 3,.mov (.cst (.d (.int .i64 7))),none⟩])
 .ret)
 .skip))
 (.seq
 (.reg [] [⟨some 15,.mov (.tmp 5),none⟩,
 ⟨some 2,.mov (.tmp 15),none⟩,
 ⟨some 3,.mov (.cst (.d (.int .i64 0))),none⟩])
 .ret)))))⟩
def ir63:AFun:=⟨13,1,[.tmp 2],
 (.seq
 (.reg [] [⟨some 2,.mov (.cst (.d (.int .i64 0))),none⟩])
 (.seq
 (.reg [0] [⟨some 3,.mov (.tmp 0),none⟩,
 ⟨some 4,.len (.tmp 3),none⟩,
 ⟨some 5,.cmp .eql (.tmp 4) (.cst (.d (.int .i64 0))),none⟩,
 ⟨some 6,.call 42 [(.tmp 5),(.cst (.d (.int .i64 12)))],none⟩,
 ⟨some 7,.mov (.tmp 0),none⟩,
 ⟨some 8,.len (.tmp 7),none⟩,
 ⟨some 9,.cmp .gtr (.tmp 8) (.cst (.d (.int .i64 16))),none⟩,
 ⟨some 10,.call 42 [(.tmp 9),(.cst (.d (.int .i64 5)))],none⟩,
 ⟨some 11,.bsl 0 3 1 2 [(.int .i64 0),(.int .i64 0)] [(0,(.tmp 6)),(1,(.tmp 10))],none⟩,
 ⟨some 12,.call 39 [(.tmp 11)],none⟩,
 ⟨some 2,.mov (.tmp 12),none⟩])
 .ret))⟩
def ir67:AFun:=⟨14,0,[.tmp 2],
 (.seq
 (.reg [] [⟨some 2,.mov (.cst (.d (.bool false))),none⟩])
 (.seq
 (.seq
 (.reg [] [⟨some 3,.mov (.cst (.d (.int .i64 0))),none⟩])
 (.post [] []
 (.block 0
 (.keep [0,3] []
 (.loop
 (.post [0,3] []
 (.seq
 (.seq
 (.reg [] [⟨some 4,.mov (.tmp 3),none⟩,
 ⟨some 5,.mov (.tmp 0),none⟩,
 ⟨some 6,.len (.tmp 5),none⟩,
 ⟨some 7,.cmp .lss (.tmp 4) (.tmp 6),none⟩])
 (.cond (.tmp 7)
 .skip
 (.exit 0)))
 (.seq
 (.block 1
 (.seq
 (.reg [] [⟨some 10,.mov (.tmp 0),none⟩,
 ⟨some 11,.mov (.tmp 3),none⟩,
 ⟨some 12,.ixa 1 (.tmp 10) (.tmp 11),none⟩,
 ⟨some 13,.ld false 1 (.tmp 12),none⟩])
 (.cond (.tmp 13)
 (.seq
 (.reg [] [⟨some 2,.mov (.cst (.d (.bool true))),none⟩])
 .ret)
 .skip)))
 (.reg [] [⟨some 8,.mov (.tmp 3),none⟩,
 ⟨some 9,.arith .add .i64 (.tmp 8) (.cst (.d (.int .i64 1))),none⟩,
 ⟨some 3,.mov (.tmp 9),none⟩])))))))))
 (.seq
 (.reg [] [⟨some 2,.mov (.cst (.d (.bool false))),none⟩])
 .ret)))⟩
def ir110:AFun:=⟨13,1,[.tmp 2],
 (.seq
 (.reg [] [⟨some 2,.mov (.cst (.d (.int .i64 0))),none⟩])
 (.seq
 (.reg [0] [⟨some 3,.mov (.tmp 0),none⟩,
 ⟨some 4,.len (.tmp 3),none⟩,
 ⟨some 5,.cmp .eql (.tmp 4) (.cst (.d (.int .i64 0))),none⟩,
 ⟨some 6,.call 69 [(.tmp 5),(.cst (.d (.int .i64 12)))],none⟩,
 ⟨some 7,.mov (.tmp 0),none⟩,
 ⟨some 8,.len (.tmp 7),none⟩,
 ⟨some 9,.cmp .gtr (.tmp 8) (.cst (.d (.int .i64 16))),none⟩,
 ⟨some 10,.call 69 [(.tmp 9),(.cst (.d (.int .i64 5)))],none⟩,
 ⟨some 11,.bsl 0 33 1 2 [(.int .i64 0),(.int .i64 0)] [(0,(.tmp 6)),(1,(.tmp 10))],none⟩,
 ⟨some 12,.call 46 [(.tmp 11)],none⟩,
 ⟨some 2,.mov (.tmp 12),none⟩])
 .ret))⟩
def ir115:AFun:=⟨26,0,[.tmp 4],
 (.seq
 (.reg [] [⟨some 4,.mov (.cst (.d (.bool false))),none⟩])
 (.seq
 (.seq
 (.reg [] [⟨some 6,.mov (.tmp 0),none⟩,
 ⟨some 7,.len (.tmp 6),none⟩,
 ⟨some 8,.mov (.tmp 1),none⟩,
 ⟨some 9,.len (.tmp 8),none⟩,
 ⟨some 10,.cmp .neq (.tmp 7) (.tmp 9),none⟩])
 (.cond (.tmp 10)
 (.seq
 (.reg [] [⟨some 4,.mov (.cst (.d (.bool false))),none⟩])
 .ret)
 .skip))
 (.seq
 (.seq
 (.reg [] [⟨some 5,.mov (.cst (.d (.int .i64 0))),none⟩])
 (.post [] []
 (.block 0
 (.keep [0,1,5] []
 (.loop
 (.post [0,1,5] []
 (.seq
 (.seq
 (.reg [] [⟨some 11,.mov (.tmp 5),none⟩,
 ⟨some 12,.mov (.tmp 0),none⟩,
 ⟨some 13,.len (.tmp 12),none⟩,
 ⟨some 14,.cmp .lss (.tmp 11) (.tmp 13),none⟩])
 (.cond (.tmp 14)
 .skip
 (.exit 0)))
 (.seq
 (.block 1
 (.seq
 (.regd [] [⟨some 17,.mov (.tmp 0),none⟩,
 ⟨some 18,.mov (.tmp 5),none⟩,
 ⟨some 19,.ixa 4 (.tmp 17) (.tmp 18),none⟩,
 ⟨some 20,.ld true 4 (.tmp 19),none⟩,
 ⟨some 21,.mov (.tmp 1),none⟩,
 ⟨some 22,.mov (.tmp 5),none⟩,
 ⟨some 23,.ixa 4 (.tmp 21) (.tmp 22),none⟩,
 ⟨some 24,.ld true 4 (.tmp 23),none⟩,
 ⟨some 25,.aeq true [2,0,0,0] (.tmp 20) (.tmp 24),none⟩] [(0,1),(0,4),(1,4),(2,4),(3,4),(0,5),(1,5),(2,5),(3,5),(4,5),(0,6),(1,6),(2,6),(3,6),(0,7),(1,7),(2,7),(3,7)])
 (.cond (.tmp 25)
 (.seq
 (.reg [] [⟨some 4,.mov (.cst (.d (.bool false))),none⟩])
 .ret)
 .skip)))
 (.reg [] [⟨some 15,.mov (.tmp 5),none⟩,
 ⟨some 16,.arith .add .i64 (.tmp 15) (.cst (.d (.int .i64 1))),none⟩,
 ⟨some 5,.mov (.tmp 16),none⟩])))))))))
 (.seq
 (.reg [] [⟨some 4,.mov (.cst (.d (.bool true))),none⟩])
 .ret))))⟩
end Vc.L
set_option maxRecDepth 10000
namespace Vc.L
open Go Go.Proofs
def srvE (l:List Stn) (n:Int):Int:=firstOf [chkStns l,within3 n 0 256]
def srvP (l:List Stn) (n:Int):List Int × List Stn:=bif srvE l n != 0 then ([],[]) else srvGo n.toNat l
theorem sp' {l:List Stn} {n:Int} {p:List Int × List Stn} {e:Int} (h:srvP l n=p) (he:srvE l n=e):resV [.slice 1 (ints p.1),.slice 4 (stns p.2),.int .i64 e]=resV [.slice 1 (ints (srvP l n).1),.slice 4 (stns (srvP l n).2),.int .i64 (srvE l n)]:=by rw [h,he]
theorem ints_len (l:List Int):(ints l).length=l.length:=by simp [ints]
end Vc.L
set_option maxRecDepth 10000
namespace Vc
open Go Go.Proofs
def Sts.rl (m:Ms) (lost:List (Int × Int)) (s:Sts):Nat→Sts
 | 0=>s
 | k+1=>(Sts.rl m lost s k).round m lost
theorem Good.rl {m:Ms} {s:Sts} (g:Good m s) (lost:List (Int × Int)):∀ k,Good m (s.rl m lost k)
 | 0=>g
 | k+1=>(Good.rl g lost k).round lost
section
variable {n : Nat} {g : Nat → Nat → Bool} {f : Nat}
end
namespace L
end L
end Vc
set_option maxRecDepth 10000
namespace Vc.L
open Go Go.Proofs
def ir100:AFun:=⟨30,1,[.tmp 4],
 (.seq
 (.reg [0] [⟨some 2,.cbx 0 3 (.tmp 0),none⟩,
 ⟨some 4,.mov (.cst (.d (.int .i64 0))),none⟩])
 (.seq
 (.reg [] [⟨some 6,.mov (.tmp 1),none⟩,
 ⟨some 7,.fad 1 (.tmp 2),none⟩,
 ⟨some 8,.ld false 1 (.tmp 7),none⟩,
 ⟨some 9,.arith .rem .i64 (.tmp 8) (.cst (.d (.int .i64 16))),none⟩,
 ⟨some 10,.arith .sub .i64 (.tmp 6) (.tmp 9),none⟩,
 ⟨some 11,.arith .add .i64 (.tmp 10) (.cst (.d (.int .i64 16))),none⟩,
 ⟨some 12,.arith .rem .i64 (.tmp 11) (.cst (.d (.int .i64 16))),none⟩,
 ⟨some 5,.mov (.tmp 12),none⟩])
 (.seq
 (.seq
 (.reg [] [⟨some 13,.mov (.tmp 5),none⟩,
 ⟨some 14,.fad 2 (.tmp 2),none⟩,
 ⟨some 15,.ld false 1 (.tmp 14),none⟩,
 ⟨some 16,.fad 0 (.tmp 2),none⟩,
 ⟨some 17,.ld false 1 (.tmp 16),none⟩,
 ⟨some 18,.len (.tmp 17),none⟩,
 ⟨some 19,.fad 1 (.tmp 2),none⟩,
 ⟨some 20,.ld false 1 (.tmp 19),none⟩,
 ⟨some 21,.arith .sub .i64 (.tmp 18) (.tmp 20),none⟩,
 ⟨some 22,.mini (.tmp 15) (.tmp 21),none⟩,
 ⟨some 23,.cmp .leq (.tmp 13) (.tmp 22),none⟩])
 (.cond (.tmp 23)
 (.seq
 (.reg [] [⟨some 24,.fad 1 (.tmp 2),none⟩,
 ⟨some 25,.ld false 1 (.tmp 24),none⟩,
 ⟨some 26,.mov (.tmp 5),none⟩,
 ⟨some 27,.arith .add .i64 (.tmp 25) (.tmp 26),none⟩,
 ⟨some 4,.mov (.tmp 27),none⟩])
 .ret)
 .skip))
 (.seq
 (.reg [] [⟨some 28,.fad 1 (.tmp 2),none⟩,
 ⟨some 29,.ld false 1 (.tmp 28),none⟩,
 ⟨some 4,.mov (.tmp 29),none⟩])
 .ret))))⟩
def ir35:AFun:=⟨26,3,[.cell 4 3 true,.tmp 5],
 (.seq
 (.reg [0,1] [⟨some 2,.cbx 0 3 (.tmp 0),none⟩,
 ⟨some 4,.alloc 1 [(.nils 4),(.d (.int .i64 0)),(.d (.int .i64 0))],none⟩,
 ⟨some 5,.mov (.cst (.d (.int .i64 0))),none⟩])
 (.seq
 (.seq
 (.reg [2] [⟨some 7,.ld true 3 (.tmp 2),none⟩,
 ⟨some 8,.call 71 [(.tmp 7)],none⟩,
 ⟨some 9,.mov (.tmp 1),none⟩,
 ⟨some 10,.call 48 [(.tmp 9),(.cst (.d (.int .i64 0))),(.cst (.d (.int .i64 15)))],none⟩,
 ⟨some 11,.bsl 2 33 1 2 [(.int .i64 0),(.int .i64 0)] [(0,(.tmp 8)),(1,(.tmp 10))],none⟩,
 ⟨some 12,.call 46 [(.tmp 11)],none⟩,
 ⟨some 6,.mov (.tmp 12),none⟩])
 (.seq
 (.reg [] [⟨some 13,.mov (.tmp 6),none⟩,
 ⟨some 14,.cmp .neq (.tmp 13) (.cst (.d (.int .i64 0))),none⟩])
 (.cond (.tmp 14)
 (.seq
 (.reg [] [⟨some 15,.build [(.nils 4),(.d (.int .i64 0)),(.d (.int .i64 0))] [],none⟩,
 ⟨some 16,.mov (.tmp 6),none⟩,
 ⟨none,.st 3 (.tmp 4) (.tmp 15),none⟩,
 ⟨some 5,.mov (.tmp 16),none⟩])
 .ret)
 .skip)))
 (.seq
 (.regd [] [⟨some 17,.fad 0 (.tmp 2),none⟩,
 ⟨some 18,.ld false 1 (.tmp 17),none⟩,
 ⟨some 19,.call 75 [(.tmp 18)],none⟩,
 ⟨some 20,.ld true 3 (.tmp 2),none⟩,
 ⟨some 21,.mov (.tmp 1),none⟩,
 ⟨some 22,.call 82 [(.tmp 20),(.tmp 21)],none⟩,
 ⟨some 23,.fad 2 (.tmp 2),none⟩,
 ⟨some 24,.ld false 1 (.tmp 23),none⟩,
 ⟨some 25,.build [(.nils 4),(.d (.int .i64 0)),(.d (.int .i64 0))] [(0,1,(.tmp 19)),(1,1,(.tmp 22)),(2,1,(.tmp 24))],none⟩,
 ⟨none,.st 3 (.tmp 4) (.tmp 25),none⟩,
 ⟨some 5,.mov (.cst (.d (.int .i64 0))),none⟩] [(0,3),(1,3),(2,3),(0,4),(1,4),(2,4),(3,4),(0,6),(1,6),(2,6),(3,6),(4,6),(5,6),(0,7),(1,7),(2,7),(3,7),(4,7),(5,7)])
 .ret)))⟩
theorem chkSn_zero {s:Sn} (h:chkSn s=0):checkFrames s.q=0∧(0≤s.a∧s.a≤s.q.length)∧(1≤s.w∧s.w≤8)∧s.q.length≤64:=by
 have h:=firstOf_zero h
 have h1:=h (checkFrames s.q) (by simp)
 have h2:=within3_zero (h (within3 s.a 0 (frs s.q).length) (by simp))
 have h3:=within3_zero (h (within3 s.w 1 8) (by simp))
 rw [frs_len] at h2
 exact ⟨h1,h2,h3,(checks_zero h1).1⟩
def ackN (s:Sn) (ans:Int):Int:=(ans - s.a % 16+16) % 16
def acked (s:Sn) (ans:Int):Int:=bif decide (ackN s ans≤min s.w (((frs s.q).length:Int) - s.a)) then s.a+ackN s ans else s.a
theorem ackN_in (s:Sn) (ans:Int):0≤ackN s ans∧ackN s ans < 16:=by unfold ackN; omega
theorem c100 (s:Sn) (ans:Int) (hs:chkSn s=0) (ha:0≤ans∧ans≤15):CallDet Tryz.prog 82 [.d s.d,.d (.int .i64 ans)] [.int .i64 (acked s ans)]:=by
 obtain ⟨_,h1,h2,h3⟩:=chkSn_zero hs
 have hlen:=frs_len s.q
 have hn:=ackN_in s ans
 refine call_of_vc (x:=ir100) (by kernel_rfl) rfl ?_
 refine ar_rem (by omega) ?_
 refine ar_sub (by omega) ?_
 refine ar_add (by omega) ?_
 refine ar_rem (by omega) ?_
 refine ar_sub (by omega) ?_
 repeat refine sd ?_
 refine b_intro ?_ ?_
 ·intro h
  have h:decide (ackN s ans≤min s.w (((frs s.q).length:Int) - s.a))=true:=h
  have hA:-9223372036854775808≤s.a+ackN s ans∧s.a+ackN s ans≤9223372036854775807:=by omega
  refine ar_add hA ?_
  rw [acked,h]
  exact rfl
 ·intro h
  have h:decide (ackN s ans≤min s.w (((frs s.q).length:Int) - s.a))=false:=h
  rw [acked,h]
  exact rfl
def sentF (s:Sn):List Fr:=(s.q.drop s.a.toNat).take s.w.toNat
def sentI (s:Sn):List Int:=(List.range (sentF s).length).map fun (j:Nat)=>(s.a+(j:Int)) % 16
theorem sentF_len {s:Sn} (hs:chkSn s=0):((sentF s).length:Int)=min ((frs s.q).length:Int) (s.a+s.w) - s.a:=by
 obtain ⟨_,h1,h2,h3⟩:=chkSn_zero hs
 rw [frs_len,sentF,List.length_take,List.length_drop]
 omega
theorem sentF_get {s:Sn} {k:Nat} (hk:k < (sentF s).length):(sentF s)[k]?=s.q[s.a.toNat+k]?:=by
 simp only [sentF,List.length_take,List.length_drop] at hk
 rw [sentF,List.getElem?_take,if_pos (by omega),List.getElem?_drop]
end Vc.L
set_option maxRecDepth 10000
namespace Vc.L
open Go Go.Proofs
def ir133i:AFun:=⟨22,3,[.tmp 4],
 (.seq
 (.reg [] [⟨some 4,.mov (.cst (.nils 4)),none⟩])
 (.seq
 (.reg [] [⟨some 5,.mov (.cst (.nils 4)),none⟩])
 (.seq
 (.seq
 (.reg [] [⟨some 8,.mov (.tmp 0),none⟩,
 ⟨some 9,.len (.tmp 8),none⟩,
 ⟨some 10,.mov (.cst (.d (.int .i64 0))),none⟩])
 (.post [5] [0,1,2]
 (.block 0
 (.asrow 2 140 4 5
 (.keep [1,5,8,9,10] []
 (.loop
 (.post [1,5,8,9,10] [0,1,2]
 (.seq
 (.reg [] [⟨some 11,.cmp .lss (.tmp 10) (.tmp 9),none⟩])
 (.seq
 (.cond (.tmp 11)
 .skip
 (.exit 0))
 (.seq
 (.block 1
 (.seq
 (.reg [0] [⟨some 12,.ixa 4 (.tmp 8) (.tmp 10),none⟩,
 ⟨some 13,.ld true 4 (.tmp 12),none⟩,
 ⟨some 7,.alloc 0 [(.d (.int .i64 0)),(.d (.int .i64 0)),(.d (.int .i64 0)),(.nils 1)],none⟩,
 ⟨none,.st 4 (.tmp 7) (.tmp 13),none⟩])
 (.reg [1,2] [⟨some 14,.mov (.tmp 5),none⟩,
 ⟨some 15,.mov (.tmp 1),none⟩,
 ⟨some 16,.ld true 4 (.tmp 7),none⟩,
 ⟨some 17,.callv (.tmp 15) [(.tmp 16)],none⟩,
 ⟨some 18,.bsl 1 140 4 1 [(.agg [(.int .i64 0),(.int .i64 0),(.int .i64 0),(.slice 1 [])])] [(0,(.tmp 17))],none⟩,
 ⟨some 19,.app 2 140 4 48 (.tmp 14) (.tmp 18),none⟩,
 ⟨some 5,.mov (.tmp 19),none⟩])))
 (.reg [] [⟨some 20,.arith .add .i64 (.tmp 10) (.cst (.d (.int .i64 1))),none⟩,
 ⟨some 10,.mov (.tmp 20),none⟩])))))))))))
 (.seq
 (.reg [] [⟨some 21,.mov (.tmp 5),none⟩,
 ⟨some 4,.mov (.tmp 21),none⟩])
 .ret))))⟩
def ir98i:AFun:=⟨12,1,[.tmp 2],
 (.seq
 (.reg [] [⟨some 2,.mov (.cst (.nils 4)),none⟩])
 (.seq
 (.reg [0] [⟨some 4,.mov (.tmp 0),none⟩,
 ⟨some 5,.len (.tmp 4),none⟩,
 ⟨some 6,.msl 0 140 4 48 (.agg [(.int .i64 0),(.int .i64 0),(.int .i64 0),(.slice 1 [])]) (.tmp 5),none⟩,
 ⟨some 3,.mov (.tmp 6),none⟩])
 (.seq
 (.reg [] [⟨some 7,.mov (.tmp 3),none⟩,
 ⟨some 8,.mov (.tmp 0),none⟩,
 ⟨some 9,.copy 4 (.tmp 7) (.tmp 8),none⟩])
 (.seq
 (.reg [] [⟨some 10,.mov (.tmp 3),none⟩,
 ⟨some 11,.calli 116 [(.tmp 10),(.cst (.d (.fn (.func 70) [])))],none⟩,
 ⟨some 2,.mov (.tmp 11),none⟩])
 .ret))))⟩
def ir99:AFun:=⟨17,12,[.cell 4 2 true],
 (.seq
 (.reg [0,1,2] [⟨some 2,.cbx 0 2 (.tmp 0),none⟩,
 ⟨some 3,.cbx 1 4 (.tmp 1),none⟩,
 ⟨some 4,.alloc 2 [(.d (.int .i64 0)),(.nils 4)],none⟩])
 (.seq
 (.regd [3,4] [⟨some 6,.fad 1 (.tmp 2),none⟩,
 ⟨some 7,.ld false 1 (.tmp 6),none⟩,
 ⟨some 8,.calli 75 [(.tmp 7)],none⟩,
 ⟨some 9,.ld true 4 (.tmp 3),none⟩,
 ⟨some 10,.call 70 [(.tmp 9)],none⟩,
 ⟨some 11,.bsl 3 140 4 1 [(.agg [(.int .i64 0),(.int .i64 0),(.int .i64 0),(.slice 1 [])])] [(0,(.tmp 10))],none⟩,
 ⟨some 12,.app 4 140 4 48 (.tmp 8) (.tmp 11),none⟩,
 ⟨some 5,.mov (.tmp 12),none⟩] [(0,3),(1,3),(2,3)])
 (.seq
 (.reg [] [⟨some 13,.mov (.tmp 5),none⟩,
 ⟨some 14,.len (.tmp 13),none⟩,
 ⟨some 15,.mov (.tmp 5),none⟩,
 ⟨some 16,.build [(.d (.int .i64 0)),(.nils 4)] [(0,1,(.tmp 14)),(1,1,(.tmp 15))],none⟩,
 ⟨none,.st 2 (.tmp 4) (.tmp 16),none⟩])
 .ret)))⟩
theorem c99 (r : Rc) (f : Fr) (hl : r.l.length ≤ 1000) (hb : ∀ f ∈ r.l, f.b.length ≤ 1048576) (hf : f.b.length ≤ 1048576) :
  CallDet Tryz.prog 78 [.d r.d,.d f.d] [(⟨(r.l.length:Int)+1,r.l++[f]⟩:Rc).d]:=by
 have hlen:=frs_len r.l
 refine call_of_vc (x:=ir99) (by kernel_rfl) rfl ?_
 let M:List Data:=List.take ((frs r.l).length:Int).toNat (frs r.l)++List.drop (frs r.l).length (List.replicate ((frs r.l).length:Int).toNat (Data.agg [.int .i64 0,.int .i64 0,.int .i64 0,.slice 1 []]))
 have hM:M=frs r.l:=by simp [M]
 have hn:((frs r.l).length:Int).toNat=(frs r.l).length:=by omega
 refine Exists.intro (.sl 8 (frs r.l).length) (Exists.intro [(5,.row 140 4 M false),(8,.row 140 4 (frs r.l) false)] (And.intro ?_ ?_))
 ·refine callIn_of_vc (x:=ir98i) 5 (by kernel_rfl) rfl rfl rfl ?_
  refine And.intro ⟨by omega,?_,?_⟩ ?_
  ·show ((frs r.l).length:Int) * 48≤2 ^ 47
   omega
  ·show ((frs r.l).length:Int)≤2 ^ 47
   omega
  refine Exists.intro _ (And.intro ⟨rfl,rfl,List.length_replicate,rfl⟩ ?_)
  refine Exists.intro (.sl 8 (frs r.l).length) (Exists.intro [(8,.row 140 4 (frs r.l) false)] (And.intro ?_ ?_))
  ·refine callIn_of_vc (P:=Tryz.prog) (x:=ir133i) 6 (by kernel_rfl) rfl rfl rfl ?_
   have hML:M.length=((frs r.l).length:Int).toNat:=by rw [hM,hn]
   refine And.intro hML ?_
   refine loop_st (fun a:Nat × List Data=>⟨[(1,.d (.fn (.func 70) [])),(5,.sl 8 a.2.length),(8,.sl 5 ((frs r.l).length:Int).toNat),(9,.d (.int .i64 (M.length:Int))),(10,.d (.int .i64 a.1))],[.cbox [.int .i64 r.t,.slice 4 (frs r.l)],.cbox [.int .i64 f.m,.int .i64 f.p,.int .i64 f.n,.slice 1 (f.b.map byt)],.box [.d (.int .i64 0),.nils 4],.none,.none,.row 140 4 M false,.none,.none,.row 140 4 a.2 false,.none,.none,.none]⟩)
    (fun a=>a.2=(r.l.take a.1).map Fr.d) (fun a=>r.l.length - a.1) (0,[]) rfl rfl ?_
   rintro ⟨k,acc⟩ hk
   have hk:acc=(r.l.take k).map Fr.d:=hk
   refine sd ?_
   refine b_intro ?_ ?_
   ·intro h
    have h:(k:Int) < (M.length:Int):=of_decide_eq_true h
    refine Exists.elim (⟨_,List.getElem?_eq_getElem (by omega)⟩:∃ x,r.l[k]?=some x) fun x hx=>?_
    have hd:(frs r.l)[(k:Int).toNat]?=some x.d:=by simp [frs,hx]
    have hacc:acc.length=k:=by have:=congrArg List.length hk; simp at this; omega
    have hdM:M[(k:Int).toNat]?=some x.d:=by rw [hM]; exact hd
    have hlt:(k:Int) < (((frs r.l).length:Int).toNat:Int):=by rw [← hML]; exact h
    refine And.intro ⟨rfl,hML,by omega,hlt⟩ ?_
    refine And.intro hML ?_
    refine Exists.intro x.d (And.intro hdM ?_)
    refine ca (c84 x (hb x (List.mem_of_getElem? hx))) ?_
    repeat refine sd ?_
    refine And.intro ⟨rfl,rfl,rfl,?_,?_⟩ ?_
    ·show (acc.length+1) * 48≤2 ^ 47
     omega
    ·show acc.length+1≤2 ^ 47
     omega
    refine ar_add (by omega) ?_
    refine ⟨(k+1,acc++[x.d]),⟨?_,by show r.l.length - (k+1) < r.l.length - k; omega⟩,rfl⟩
    show acc++[x.d]=(r.l.take (k+1)).map Fr.d
    rw [take_map_succ _ hx,hk]
   ·intro h
    have h:¬ (k:Int) < (M.length:Int):=of_decide_eq_false h
    have e:acc=frs r.l:=by
     rw [hML] at h
     rw [hk,List.take_of_length_le (by omega)]; rfl
    subst e
    exact ⟨rfl,rfl⟩
  ·exact ⟨rfl,rfl⟩
 ·refine ca (c84 f hf) ?_
  repeat refine sd ?_
  refine And.intro ⟨rfl,rfl,rfl,?_,?_⟩ ?_
  ·show ((frs r.l).length+1) * 48≤2 ^ 47
   omega
  ·show (frs r.l).length+1≤2 ^ 47
   omega
  repeat refine sd ?_
  have e:(⟨(r.l.length:Int)+1,r.l++[f]⟩:Rc).d=.agg [.int .i64 (((frs r.l++[f.d]).length:Nat):Int),.slice 4 (frs r.l++[f.d])]:=by simp [Rc.d,frs]
  exact (congrArg (fun z=>resV [z]) e).symm
end Vc.L
set_option maxRecDepth 10000
namespace Vc.L
open Go Go.Proofs
def ir33:AFun:=⟨48,5,[.cell 6 2 true,.tmp 7,.tmp 8],
 (.seq
 (.reg [0,1,2] [⟨some 3,.cbx 0 2 (.tmp 0),none⟩,
 ⟨some 4,.cbx 1 4 (.tmp 1),none⟩,
 ⟨some 6,.alloc 2 [(.d (.int .i64 0)),(.nils 4)],none⟩,
 ⟨some 7,.mov (.cst (.d (.int .i64 0))),none⟩,
 ⟨some 8,.mov (.cst (.d (.int .i64 0))),none⟩])
 (.seq
 (.seq
 (.regd [3] [⟨some 11,.ld true 2 (.tmp 3),none⟩,
 ⟨some 12,.call 72 [(.tmp 11)],none⟩,
 ⟨some 13,.ld true 4 (.tmp 4),none⟩,
 ⟨some 14,.call 121 [(.tmp 13)],none⟩,
 ⟨some 15,.mov (.tmp 2),none⟩,
 ⟨some 16,.call 48 [(.tmp 15),(.cst (.d (.int .i64 0))),(.cst (.d (.int .i64 15)))],none⟩,
 ⟨some 17,.ld true 2 (.tmp 3),none⟩,
 ⟨some 18,.mov (.tmp 2),none⟩,
 ⟨some 19,.call 77 [(.tmp 17),(.tmp 18)],none⟩,
 ⟨some 20,.mov (.tmp 19),none⟩,
 ⟨some 21,.fad 0 (.tmp 3),some (20,true)⟩,
 ⟨some 22,.ld false 1 (.tmp 21),some (20,true)⟩,
 ⟨some 23,.cmp .eql (.tmp 22) (.cst (.d (.int .i64 64))),some (20,true)⟩,
 ⟨some 24,.pick (.tmp 20) (.tmp 23) (.cst (.d (.bool false))),none⟩,
 ⟨some 25,.call 69 [(.tmp 24),(.cst (.d (.int .i64 5)))],none⟩,
 ⟨some 26,.bsl 3 33 1 4 [(.int .i64 0),(.int .i64 0),(.int .i64 0),(.int .i64 0)] [(0,(.tmp 12)),(1,(.tmp 14)),(2,(.tmp 16)),(3,(.tmp 25))],none⟩,
 ⟨some 27,.call 46 [(.tmp 26)],none⟩,
 ⟨some 9,.mov (.tmp 27),none⟩] [(0,2),(1,2),(0,4),(1,4),(2,4),(3,4),(0,6),(1,6),(2,6),(3,6),(4,6),(5,6),(0,7),(1,7),(2,7),(3,7),(4,7),(5,7),(6,7)])
 (.seq
 (.reg [] [⟨some 28,.mov (.tmp 9),none⟩,
 ⟨some 29,.cmp .neq (.tmp 28) (.cst (.d (.int .i64 0))),none⟩])
 (.cond (.tmp 29)
 (.seq
 (.reg [] [⟨some 30,.build [(.d (.int .i64 0)),(.nils 4)] [],none⟩,
 ⟨some 31,.mov (.tmp 9),none⟩,
 ⟨none,.st 2 (.tmp 6) (.tmp 30),none⟩,
 ⟨some 7,.mov (.cst (.d (.int .i64 0))),none⟩,
 ⟨some 8,.mov (.tmp 31),none⟩])
 .ret)
 .skip)))
 (.seq
 (.regd [4] [⟨some 32,.fad 0 (.tmp 3),none⟩,
 ⟨some 33,.ld false 1 (.tmp 32),none⟩,
 ⟨some 34,.fad 1 (.tmp 3),none⟩,
 ⟨some 35,.ld false 1 (.tmp 34),none⟩,
 ⟨some 36,.call 75 [(.tmp 35)],none⟩,
 ⟨some 37,.build [(.d (.int .i64 0)),(.nils 4)] [(0,1,(.tmp 33)),(1,1,(.tmp 36))],none⟩,
 ⟨some 10,.alloc 4 [(.d (.int .i64 0)),(.nils 4)],none⟩,
 ⟨none,.st 2 (.tmp 10) (.tmp 37),none⟩] [(0,2),(1,2),(0,3),(1,3),(0,4),(1,4),(0,6),(1,6),(2,6),(3,6),(4,6),(5,6)])
 (.seq
 (.seq
 (.reg [] [⟨some 38,.ld true 2 (.tmp 3),none⟩,
 ⟨some 39,.mov (.tmp 2),none⟩,
 ⟨some 40,.call 77 [(.tmp 38),(.tmp 39)],none⟩])
 (.cond (.tmp 40)
 (.reg [] [⟨some 41,.ld true 2 (.tmp 3),none⟩,
 ⟨some 42,.ld true 4 (.tmp 4),none⟩,
 ⟨some 43,.call 78 [(.tmp 41),(.tmp 42)],none⟩,
 ⟨none,.st 2 (.tmp 10) (.tmp 43),none⟩])
 .skip))
 (.seq
 (.regd [] [⟨some 44,.ld true 2 (.tmp 10),none⟩,
 ⟨some 45,.fad 0 (.tmp 10),none⟩,
 ⟨some 46,.ld false 1 (.tmp 45),none⟩,
 ⟨some 47,.arith .rem .i64 (.tmp 46) (.cst (.d (.int .i64 16))),none⟩,
 ⟨none,.st 2 (.tmp 6) (.tmp 44),none⟩,
 ⟨some 7,.mov (.tmp 47),none⟩,
 ⟨some 8,.mov (.cst (.d (.int .i64 0))),none⟩] [(0,1),(0,2),(0,3),(1,4),(2,4),(3,4)])
 .ret)))))⟩
def hearE (r:Rc) (f:Fr) (n:Int):Int:=firstOf [chkRc r,f.check,within3 n 0 15,bif (n==r.t.tmod 16)&&(r.t==64) then 5 else 0]
def hearP (r:Rc) (f:Fr) (n:Int):Rc × Int × Int:=match hearE r f n != 0 with
 | true=>(⟨0,[]⟩,0,hearE r f n)
 | false=>match n==r.t.tmod 16 with
  | true=>(⟨(r.l.length:Int)+1,r.l++[f]⟩,((r.l.length:Int)+1) % 16,0)
  | false=>(r,r.t % 16,0)
theorem hp {r:Rc} {f:Fr} {n:Int} {p:Rc × Int × Int} (h:hearP r f n=p):resV [p.1.d,.int .i64 p.2.1,.int .i64 p.2.2]=resV [(hearP r f n).1.d,.int .i64 (hearP r f n).2.1,.int .i64 (hearP r f n).2.2]:=by rw [h]
end Vc.L
set_option maxRecDepth 10000
namespace Vc.L
open Go Go.Proofs
def ir92:AFun:=⟨4,1,[.tmp 2],
 (.seq
 (.reg [0] [⟨some 1,.cbx 0 3 (.tmp 0),none⟩,
 ⟨some 2,.mov (.cst .undef),none⟩])
 (.seq
 (.reg [] [⟨some 3,.mkf (.func 118) [] [(.tmp 1)],none⟩,
 ⟨some 2,.mov (.tmp 3),none⟩])
 .ret))⟩
def ir94:AFun:=⟨6,2,[.cell 2 4 true],
 (.seq
 (.reg [0,1] [⟨some 1,.cbx 0 5 (.tmp 0),none⟩,
 ⟨some 2,.alloc 1 [(.d (.int .i64 0)),(.d (.int .i64 0)),(.d (.int .i64 0)),(.nils 1)],none⟩])
 (.seq
 (.reg [] [⟨some 3,.fad 0 (.tmp 1),none⟩,
 ⟨some 4,.ld true 4 (.tmp 3),none⟩,
 ⟨some 5,.call 70 [(.tmp 4)],none⟩,
 ⟨none,.st 4 (.tmp 2) (.tmp 5),none⟩])
 .ret))⟩
def ir96:AFun:=⟨5,1,[.tmp 2],
 (.seq
 (.reg [0] [⟨some 1,.cbx 0 5 (.tmp 0),none⟩,
 ⟨some 2,.mov (.cst (.d (.int .i64 0))),none⟩])
 (.seq
 (.reg [] [⟨some 3,.fad 4 (.tmp 1),none⟩,
 ⟨some 4,.ld false 1 (.tmp 3),none⟩,
 ⟨some 2,.mov (.tmp 4),none⟩])
 .ret))⟩
def Sn.cap (s:Sn):Data:=.agg [.slice 4 (frs s.q),.int .i64 s.a,.int .i64 s.w]
theorem c92 (s:Sn):CallDet Tryz.prog 80 [.d s.d] [.fn (.func 118) [s.cap]]:=by
 refine call_of_vc (x:=ir92) (by kernel_rfl) rfl ?_
 exact rfl
def numD (f:Fr) (n:Int):Data:=.agg [.int .i64 f.m,.int .i64 f.p,.int .i64 f.n,.slice 1 (f.b.map byt),.int .i64 n]
end Vc.L
set_option maxRecDepth 10000
namespace Vc.L
open Go Go.Proofs
def ir132:AFun:=⟨30,0,[],
 (.seq
 (.reg [] [⟨some 4,.fad 1 (.tmp 1),none⟩,
 ⟨some 5,.ld false 1 (.tmp 4),none⟩,
 ⟨some 3,.mov (.tmp 5),none⟩])
 (.post [] []
 (.block 0
 (.keep [0,1,3] []
 (.loop
 (.post [0,1,3] []
 (.seq
 (.seq
 (.reg [] [⟨some 6,.mov (.tmp 3),none⟩,
 ⟨some 7,.fad 0 (.tmp 1),none⟩,
 ⟨some 8,.ld false 1 (.tmp 7),none⟩,
 ⟨some 9,.len (.tmp 8),none⟩,
 ⟨some 10,.fad 1 (.tmp 1),none⟩,
 ⟨some 11,.ld false 1 (.tmp 10),none⟩,
 ⟨some 12,.fad 2 (.tmp 1),none⟩,
 ⟨some 13,.ld false 1 (.tmp 12),none⟩,
 ⟨some 14,.arith .add .i64 (.tmp 11) (.tmp 13),none⟩,
 ⟨some 15,.mini (.tmp 9) (.tmp 14),none⟩,
 ⟨some 16,.cmp .lss (.tmp 6) (.tmp 15),none⟩])
 (.cond (.tmp 16)
 .skip
 (.exit 0)))
 (.seq
 (.block 1
 (.seq
 (.reg [] [⟨some 19,.mov (.tmp 0),none⟩,
 ⟨some 20,.fad 0 (.tmp 1),none⟩,
 ⟨some 21,.ld false 1 (.tmp 20),none⟩,
 ⟨some 22,.mov (.tmp 3),none⟩,
 ⟨some 23,.ixa 4 (.tmp 21) (.tmp 22),none⟩,
 ⟨some 24,.ld true 4 (.tmp 23),none⟩,
 ⟨some 25,.mov (.tmp 3),none⟩,
 ⟨some 26,.arith .rem .i64 (.tmp 25) (.cst (.d (.int .i64 16))),none⟩,
 ⟨some 27,.build [(.d (.int .i64 0)),(.d (.int .i64 0)),(.d (.int .i64 0)),(.nils 1),(.d (.int .i64 0))] [(0,4,(.tmp 24)),(4,1,(.tmp 26))],none⟩,
 ⟨some 28,.callv (.tmp 19) [(.tmp 27)],none⟩,
 ⟨some 29,.not (.tmp 28),none⟩])
 (.cond (.tmp 29)
 .ret
 .skip)))
 (.reg [] [⟨some 17,.mov (.tmp 3),none⟩,
 ⟨some 18,.arith .add .i64 (.tmp 17) (.cst (.d (.int .i64 1))),none⟩,
 ⟨some 3,.mov (.tmp 18),none⟩])))))))))⟩
def ir131:AFun:=⟨13,5,[.tmp 4],
 (.seq
 (.reg [0] [⟨some 2,.box 0 1 (.tmp 0),none⟩,
 ⟨some 4,.mov (.cst (.nils 5)),none⟩])
 (.seq
 (.seq
 (.reg [] [⟨some 6,.mov (.tmp 1),none⟩])
 (.block 0
 (.keep [2,6] [0]
 (.rfor 1 (.tmp 6) [7]
 (.reg [2] [⟨some 5,.alloc 2 [(.d (.int .i64 0)),(.d (.int .i64 0)),(.d (.int .i64 0)),(.nils 1),(.d (.int .i64 0))],none⟩,
 ⟨none,.st 5 (.tmp 5) (.tmp 7),none⟩])
 (.post [] [2,3,4]
 (.block 1
 (.reg [3,4] [⟨some 8,.ld false 1 (.tmp 2),none⟩,
 ⟨some 9,.ld true 5 (.tmp 5),none⟩,
 ⟨some 10,.bsl 3 150 5 1 [(.agg [(.int .i64 0),(.int .i64 0),(.int .i64 0),(.slice 1 []),(.int .i64 0)])] [(0,(.tmp 9))],none⟩,
 ⟨some 11,.app 4 150 5 56 (.tmp 8) (.tmp 10),none⟩,
 ⟨none,.st 1 (.tmp 2) (.tmp 11),none⟩])))))))
 (.seq
 (.reg [] [⟨some 12,.ld false 1 (.tmp 2),none⟩,
 ⟨some 4,.mov (.tmp 12),none⟩])
 .ret)))⟩
def ir91:AFun:=⟨5,6,[.tmp 2],
 (.seq
 (.reg [] [⟨some 2,.mov (.cst (.nils 5)),none⟩])
 (.seq
 (.reg [] [⟨some 3,.mov (.tmp 0),none⟩,
 ⟨some 4,.calli 117 [(.cst (.nils 5)),(.tmp 3)],none⟩,
 ⟨some 2,.mov (.tmp 4),none⟩])
 .ret))⟩
def xa131:ACode :=
 (.reg [2] [⟨some 5, .alloc 2 [(.d (.int .i64 0)), (.d (.int .i64 0)), (.d (.int .i64 0)), (.nils 1), (.d (.int .i64 0))], none⟩,
     ⟨none,.st 5 (.tmp 5) (.tmp 7),none⟩])
def xb131:ACode :=
 (.post [] [2, 3, 4]
    (.block 1
     (.reg [3,4] [⟨some 8,.ld false 1 (.tmp 2),none⟩,
      ⟨some 9,.ld true 5 (.tmp 5),none⟩,
      ⟨some 10,.bsl 3 150 5 1 [(.agg [(.int .i64 0),(.int .i64 0),(.int .i64 0),(.slice 1 []),(.int .i64 0)])] [(0,(.tmp 9))],none⟩,
      ⟨some 11,.app 4 150 5 56 (.tmp 8) (.tmp 10),none⟩,
      ⟨none,.st 1 (.tmp 2) (.tmp 11),none⟩])))
noncomputable def lp131 (s:Sn):AObj:=.lp .ready none 13 [(2,.ptr 0 0),(6,.d (.fn (.func 118) [s.cap]))] [7] xa131 xb131 (ckP Tryz.prog 13 xa131 xb131)
def boxv (acc:List Data):AVal:=match acc with | []=>.nils 5 | _::_=>.sl 4 acc.length
def row4 (acc:List Data):AObj:=match acc with | []=>.none | _::_=>.row 150 5 acc false
noncomputable def heap131 (s:Sn) (acc:List Data):List AObj:=[.box [boxv acc],lp131 s,.none,.none,row4 acc,.none]
def numsD (s:Sn):List Data:=(List.range (sentF s).length).map fun (k:Nat)=>match (sentF s)[k]? with | some f=>numD f ((s.a+(k:Int)) % 16) | none=>.int .i64 0
theorem yield131 (s : Sn) (f : Fr) (n : Int) (acc : List Data) (hl : acc.length ≤ 64) :
  YieldIn Tryz.prog 1 [.d (numD f n)] (heap131 s acc) (.d (.bool true)) (heap131 s (acc++[numD f n])):=by
 cases acc with
 | nil =>
  refine yieldIn_of_vc (m:=13) (ps:=[7]) (xa:=xa131) (xb:=xb131) (sl:=[(2,.ptr 0 0),(6,.d (.fn (.func 118) [s.cap]))]) rfl rfl rfl rfl rfl rfl ?_
  repeat refine sd ?_
  refine And.intro ⟨by show 1 * 56≤2 ^ 47; decide,by show 1≤2 ^ 47; decide⟩ ?_
  repeat refine sd ?_
  exact rfl
 | cons y r =>
  refine yieldIn_of_vc (m:=13) (ps:=[7]) (xa:=xa131) (xb:=xb131) (sl:=[(2,.ptr 0 0),(6,.d (.fn (.func 118) [s.cap]))]) rfl rfl rfl rfl rfl rfl ?_
  repeat refine sd ?_
  refine And.intro ⟨rfl,rfl,rfl,?_,?_⟩ ?_
  ·show ((y::r).length+1) * 56≤2 ^ 47
   omega
  ·show (y::r).length+1≤2 ^ 47
   omega
  repeat refine sd ?_
  exact rfl
end Vc.L
set_option maxRecDepth 10000
namespace Vc.L
open Go Go.Proofs
def numAt (s:Sn) (k:Nat):Data:=match (sentF s)[k]? with | some f=>numD f ((s.a+(k:Int)) % 16) | none=>.int .i64 0
theorem numsD_eq (s:Sn):numsD s=(List.range (sentF s).length).map (numAt s):=rfl
theorem num_next {s:Sn} {k:Nat} {i:Int} {x:Fr} {acc:List Data} (hx:(sentF s)[k]?=some x) (i1:acc=(List.range k).map (numAt s)) (i4:i=s.a+(k:Int)):acc++[numD x (i % 16)]=(List.range (k+1)).map (numAt s):=by
 rw [List.range_succ,List.map_append,i1,i4]
 simp only [List.map_cons,List.map_nil,numAt,hx]
theorem c132 (s:Sn) (hs:chkSn s=0):CallIn Tryz.prog 118 [.yld 1,.cp [.slice 4 (frs s.q),.int .i64 s.a,.int .i64 s.w] 0] (heap131 s []) (.tup []) (heap131 s (numsD s)):=by
 obtain ⟨_,h1,h2,h3⟩:=chkSn_zero hs
 have hlen:=frs_len s.q
 have hsl:=sentF_len hs
 refine callIn_of_vc (P:=Tryz.prog) (x:=ir132) 5 (by kernel_rfl) rfl rfl rfl ?_
 refine loop_st (fun a:Nat × Int × List Data=>⟨[(0,.yld 1),(1,.cp [.slice 4 (frs s.q),.int .i64 s.a,.int .i64 s.w] 0),(3,.d (.int .i64 a.2.1))],heap131 s a.2.2⟩)
  (fun a=>(a.2.2=(List.range a.1).map (numAt s)∧a.1≤(sentF s).length)∧a.2.1=s.a+(a.1:Int)) (fun a=>(sentF s).length - a.1) (0,s.a,[]) rfl ⟨⟨rfl,Nat.zero_le _⟩,by show s.a=s.a+((0:Nat):Int); omega⟩ ?_
 rintro ⟨k,i,acc⟩ ⟨⟨i1,i3⟩,i4⟩
 have i1:acc=(List.range k).map (numAt s):=i1
 have i3:k≤(sentF s).length:=i3
 have i4:i=s.a+(k:Int):=i4
 have l1:acc.length=k:=by rw [i1]; simp
 have hA0:-9223372036854775808≤s.a+s.w∧s.a+s.w≤9223372036854775807:=by omega
 cases acc with
 | nil =>
  refine ar_add hA0 ?_
  repeat refine sd ?_
  refine b_intro ?_ ?_
  ·intro h
   have h:i < min ((frs s.q).length:Int) (s.a+s.w):=of_decide_eq_true h
   have hk:k < (sentF s).length:=by omega
   refine Exists.elim (⟨_,List.getElem?_eq_getElem hk⟩:∃ x,(sentF s)[k]?=some x) fun x hx=>?_
   have hd:(frs s.q)[i.toNat]?=some x.d:=by
    rw [show i.toNat=s.a.toNat+k by omega]
    have:=hx
    rw [sentF_get hk] at this
    simp [frs,this]
   have h0:0≤i:=by omega
   refine ix_at hd h0 ?_
   have hr:0≤i∧(1:Int)≤16:=by omega
   refine ar_rem hr ?_
   repeat refine sd ?_
   refine Exists.intro (.d (.bool true)) (Exists.intro [(0,.box [boxv ([]++[numD x (i % 16)])]),(4,row4 ([]++[numD x (i % 16)]))] (And.intro (yield131 s x (i % 16) [] (by omega)) ?_))
   have hA:-9223372036854775808≤i+1∧i+1≤9223372036854775807:=by omega
   refine ar_add hA ?_
   have e1:[]++[numD x (i % 16)]=(List.range (k+1)).map (numAt s):=num_next hx i1 i4
   exact ⟨(k+1,i+1,[]++[numD x (i % 16)]),⟨⟨⟨e1,hk⟩,by show i+1=s.a+((k+1:Nat):Int); omega⟩,by show (sentF s).length - (k+1) < (sentF s).length - k; omega⟩,rfl⟩
  ·intro h
   have h:¬ i < min ((frs s.q).length:Int) (s.a+s.w):=of_decide_eq_false h
   have hk:k=(sentF s).length:=by omega
   have e1:[]=numsD s:=by rw [i1,hk]; rfl
   have e:heap131 s []=heap131 s (numsD s):=by rw [e1]
   exact ⟨rfl,e⟩
 | cons y r =>
  refine ar_add hA0 ?_
  repeat refine sd ?_
  refine b_intro ?_ ?_
  ·intro h
   have h:i < min ((frs s.q).length:Int) (s.a+s.w):=of_decide_eq_true h
   have hk:k < (sentF s).length:=by omega
   refine Exists.elim (⟨_,List.getElem?_eq_getElem hk⟩:∃ x,(sentF s)[k]?=some x) fun x hx=>?_
   have hd:(frs s.q)[i.toNat]?=some x.d:=by
    rw [show i.toNat=s.a.toNat+k by omega]
    have:=hx
    rw [sentF_get hk] at this
    simp [frs,this]
   have h0:0≤i:=by omega
   refine ix_at hd h0 ?_
   have hr:0≤i∧(1:Int)≤16:=by omega
   refine ar_rem hr ?_
   repeat refine sd ?_
   refine Exists.intro (.d (.bool true)) (Exists.intro [(0,.box [boxv ((y::r)++[numD x (i % 16)])]),(4,row4 ((y::r)++[numD x (i % 16)]))] (And.intro (yield131 s x (i % 16) (y::r) (by omega)) ?_))
   have hA:-9223372036854775808≤i+1∧i+1≤9223372036854775807:=by omega
   refine ar_add hA ?_
   have e1:(y::r)++[numD x (i % 16)]=(List.range (k+1)).map (numAt s):=num_next hx i1 i4
   exact ⟨(k+1,i+1,(y::r)++[numD x (i % 16)]),⟨⟨⟨e1,hk⟩,by show i+1=s.a+((k+1:Nat):Int); omega⟩,by show (sentF s).length - (k+1) < (sentF s).length - k; omega⟩,rfl⟩
  ·intro h
   have h:¬ i < min ((frs s.q).length:Int) (s.a+s.w):=of_decide_eq_false h
   have hk:k=(sentF s).length:=by omega
   have e1:(y::r)=numsD s:=by rw [i1,hk]; rfl
   have e:heap131 s (y::r)=heap131 s (numsD s):=by rw [e1]
   exact ⟨rfl,e⟩
end Vc.L
set_option maxRecDepth 10000
namespace Vc.L
open Go Go.Proofs
theorem c91 (s:Sn) (hs:chkSn s=0):CallDet Tryz.prog 79 [.d (.fn (.func 118) [s.cap])] [.slice 5 (numsD s)]:=by
 have hc:=c132 s hs
 refine call_of_vc (x:=ir91) (by kernel_rfl) rfl ?_
 refine Or.elim (show numsD s=[]∨∃ y r,numsD s=y::r by cases numsD s with | nil=>exact .inl rfl | cons y r=>exact .inr ⟨y,r,rfl⟩) (fun hN=>?_) (fun hN=>Exists.elim hN fun y hN=>Exists.elim hN fun r hN=>?_)
 ·rw [hN] at hc ⊢
  refine Exists.intro (.nils 5) (Exists.intro [(0,.box [.nils 5])] (And.intro ?_ ?_))
  ·refine callIn_of_vc (P:=Tryz.prog) (x:=ir131) 0 (by kernel_rfl) rfl rfl rfl ?_
   refine Exists.intro (.tup []) (Exists.intro (heap131 s []) (And.intro hc ?_))
   refine And.intro (by intro h; cases h) ?_
   exact ⟨rfl,rfl⟩
  ·exact rfl
 ·rw [hN] at hc ⊢
  refine Exists.intro (.sl 4 (y::r).length) (Exists.intro [(0,.box [.sl 4 (y::r).length]),(4,.row 150 5 (y::r) false)] (And.intro ?_ ?_))
  ·refine callIn_of_vc (P:=Tryz.prog) (x:=ir131) 0 (by kernel_rfl) rfl rfl rfl ?_
   refine Exists.intro (.tup []) (Exists.intro (heap131 s (y::r)) (And.intro hc ?_))
   refine And.intro (by intro h; cases h) ?_
   exact ⟨rfl,rfl⟩
  ·repeat refine sd ?_
   exact rfl
end Vc.L
set_option maxRecDepth 10000
namespace Vc.L
open Go Go.Proofs
def ir93:AFun:=⟨22,3,[.tmp 4],
 (.seq
 (.reg [] [⟨some 4,.mov (.cst (.nils 4)),none⟩])
 (.seq
 (.reg [] [⟨some 5,.mov (.cst (.nils 4)),none⟩])
 (.seq
 (.seq
 (.reg [] [⟨some 8,.mov (.tmp 0),none⟩,
 ⟨some 9,.len (.tmp 8),none⟩,
 ⟨some 10,.mov (.cst (.d (.int .i64 0))),none⟩])
 (.post [5] [0,1,2]
 (.block 0
 (.asrow 2 140 4 5
 (.keep [1,5,8,9,10] []
 (.loop
 (.post [1,5,8,9,10] [0,1,2]
 (.seq
 (.reg [] [⟨some 11,.cmp .lss (.tmp 10) (.tmp 9),none⟩])
 (.seq
 (.cond (.tmp 11)
 .skip
 (.exit 0))
 (.seq
 (.block 1
 (.seq
 (.reg [0] [⟨some 12,.ixa 5 (.tmp 8) (.tmp 10),none⟩,
 ⟨some 13,.ld true 5 (.tmp 12),none⟩,
 ⟨some 7,.alloc 0 [(.d (.int .i64 0)),(.d (.int .i64 0)),(.d (.int .i64 0)),(.nils 1),(.d (.int .i64 0))],none⟩,
 ⟨none,.st 5 (.tmp 7) (.tmp 13),none⟩])
 (.reg [1,2] [⟨some 14,.mov (.tmp 5),none⟩,
 ⟨some 15,.mov (.tmp 1),none⟩,
 ⟨some 16,.ld true 5 (.tmp 7),none⟩,
 ⟨some 17,.callv (.tmp 15) [(.tmp 16)],none⟩,
 ⟨some 18,.bsl 1 140 4 1 [(.agg [(.int .i64 0),(.int .i64 0),(.int .i64 0),(.slice 1 [])])] [(0,(.tmp 17))],none⟩,
 ⟨some 19,.app 2 140 4 48 (.tmp 14) (.tmp 18),none⟩,
 ⟨some 5,.mov (.tmp 19),none⟩])))
 (.reg [] [⟨some 20,.arith .add .i64 (.tmp 10) (.cst (.d (.int .i64 1))),none⟩,
 ⟨some 10,.mov (.tmp 20),none⟩])))))))))))
 (.seq
 (.reg [] [⟨some 21,.mov (.tmp 5),none⟩,
 ⟨some 4,.mov (.tmp 21),none⟩])
 .ret))))⟩
def ir95:AFun:=⟨22,3,[.tmp 4],
 (.seq
 (.reg [] [⟨some 4,.mov (.cst (.nils 1)),none⟩])
 (.seq
 (.reg [] [⟨some 5,.mov (.cst (.nils 1)),none⟩])
 (.seq
 (.seq
 (.reg [] [⟨some 8,.mov (.tmp 0),none⟩,
 ⟨some 9,.len (.tmp 8),none⟩,
 ⟨some 10,.mov (.cst (.d (.int .i64 0))),none⟩])
 (.post [5] [0,1,2]
 (.block 0
 (.asrow 2 3 1 5
 (.keep [1,5,8,9,10] []
 (.loop
 (.post [1,5,8,9,10] [0,1,2]
 (.seq
 (.reg [] [⟨some 11,.cmp .lss (.tmp 10) (.tmp 9),none⟩])
 (.seq
 (.cond (.tmp 11)
 .skip
 (.exit 0))
 (.seq
 (.block 1
 (.seq
 (.reg [0] [⟨some 12,.ixa 5 (.tmp 8) (.tmp 10),none⟩,
 ⟨some 13,.ld true 5 (.tmp 12),none⟩,
 ⟨some 7,.alloc 0 [(.d (.int .i64 0)),(.d (.int .i64 0)),(.d (.int .i64 0)),(.nils 1),(.d (.int .i64 0))],none⟩,
 ⟨none,.st 5 (.tmp 7) (.tmp 13),none⟩])
 (.reg [1,2] [⟨some 14,.mov (.tmp 5),none⟩,
 ⟨some 15,.mov (.tmp 1),none⟩,
 ⟨some 16,.ld true 5 (.tmp 7),none⟩,
 ⟨some 17,.callv (.tmp 15) [(.tmp 16)],none⟩,
 ⟨some 18,.bsl 1 3 1 1 [(.int .i64 0)] [(0,(.tmp 17))],none⟩,
 ⟨some 19,.app 2 3 1 8 (.tmp 14) (.tmp 18),none⟩,
 ⟨some 5,.mov (.tmp 19),none⟩])))
 (.reg [] [⟨some 20,.arith .add .i64 (.tmp 10) (.cst (.d (.int .i64 1))),none⟩,
 ⟨some 10,.mov (.tmp 20),none⟩])))))))))))
 (.seq
 (.reg [] [⟨some 21,.mov (.tmp 5),none⟩,
 ⟨some 4,.mov (.tmp 21),none⟩])
 .ret))))⟩
def prs (s:Sn):List (Fr × Int):=(sentF s).mapIdx fun k f=>(f,(s.a+(k:Int)) % 16)
def sentP (s:Sn):List Fr × List Int:=match chkSn s != 0 with | true=>([],[]) | false=>(sentF s,sentI s)
theorem sp {s:Sn} {p:List Fr × List Int} {e:Int} (h:sentP s=p) (he:chkSn s=e):resV [.slice 4 (frs p.1),.slice 1 (ints p.2),.int .i64 e]=resV [.slice 4 (frs (sentP s).1),.slice 1 (ints (sentP s).2),.int .i64 (chkSn s)]:=by rw [h,he]
end Vc.L
