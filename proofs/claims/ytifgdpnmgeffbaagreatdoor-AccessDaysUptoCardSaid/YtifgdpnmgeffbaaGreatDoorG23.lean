import Derived.Test.YtifgdpnmgeffbaaGreatDoorG22
set_option linter.unusedSectionVars false
set_option linter.unusedVariables false
set_option linter.unusedSimpArgs false
set_option maxRecDepth 10000
set_option maxHeartbeats 4000000
namespace Vc
open Go Go.Proofs
section
variable (ri ob : List UInt8) (day : Int)
def exG (F:List Int→Nm→List Int × Bool) (c:List Int) (t:Nm):List Gr→Nat→List Int × Bool
 | [],_=>([],false)
 | g::r,k=>bif holdB ri ob day g&&(g.fr==t&&!c.contains (k:Int)) then (bif (F (c++[(k:Int)]) g.to).2 then ((F (c++[(k:Int)]) g.to).1,true) else exG F c t r (k+1)) else exG F c t r (k+1)
def exF (G:List Gr) (of:Nm):Nat→List Int→Nm→List Int × Bool
 | 0,c,t=>(c,t==of)
 | f+1,c,t=>exG ri ob day (exF G of f) c t G 0
end
theorem c23 (l:List Ob) (G:List Gr) (of ri ob:Nm) (day:Int) (hl:l.length≤1048576) (hG:G.length≤32) (hL:(hoL ri ob day G (G.length+2) 0 [(ownO l ob).getD []] [0]).1.length≤1048576):CallDet Tryz.prog 23 [.d (.agg [.slice 2 (obs l),.slice 6 (grs G)]),.d (.agg [.str of,.str ri,.str ob,.int .i64 day])] [.bool ((hoL ri ob day G (G.length+2) 0 [(ownO l ob).getD []] [0]).1.contains of)]:=by
 have c113_:=c113 l G of ri ob day hl hG
 have c92_:=c92 _ of hL
 refine call_of_vc (x:=jr23) (by kernel_rfl) rfl ?_
 refine ca c113_ ?_
 refine ca c92_ ?_
 exact rfl
theorem hoG_HI {ri ob:Nm} {day:Int} {GA:List Gr} {i:Nat} {n:Nm} {d:Int} {m:Nat}:∀ {r:List Gr} {L:List Nm} {K:List Int},(∀ g∈r,g∈GA)→HI GA i n d m L K→HI GA i n d m (hoG ri ob day n d r L K).1 (hoG ri ob day n d r L K).2
 | [],_,_,_,h=>h
 | g::r,L,K,hs,h=>by
  rw [hoG]
  have hs2:∀ g∈r,g∈GA:=fun x hx=>hs x (List.mem_cons_of_mem _ hx)
  cases hc:(holdB ri ob day g&&(g.fr==n&&!L.contains g.to)) with
  | false=>exact hoG_HI hs2 h
  | true =>
   simp only [Bool.and_eq_true,Bool.not_eq_true'] at hc
   exact hoG_HI hs2 (h.step (hs g List.mem_cons_self) hc.2.2)
structure HK (G:List Gr) (L:List Nm) (K:List Int):Prop where
 hc:cntR L G+L.length≤40
 hl:K.length=L.length
 hz:∀ z∈K,0≤z∧z < (K.length:Int)
theorem hoL_HK {ri ob:Nm} {day:Int} {G:List Gr}:∀ {f i:Nat} {L:List Nm} {K:List Int},HK G L K→HK G (hoL ri ob day G f i L K).1 (hoL ri ob day G f i L K).2
 | 0,_,_,_,h=>h
 | f+1,i,L,K,h=>by
  rw [hoL]
  split
  ·rename_i n d hn hd
   have h1:=hoG_HI (ri:=ri) (ob:=ob) (day:=day) (r:=G) (fun g h=>h) (⟨h.hc,hn,hd,Nat.le_refl _,h.hl,h.hz⟩:HI G i n d (cntR L G+L.length) L K)
   exact hoL_HK ⟨Nat.le_trans h1.hc h1.hm,h1.hl,h1.hz⟩
  ·exact h
theorem ho_HK (l:List Ob) (G:List Gr) (ri ob:Nm) (day:Int) (hG:G.length≤32):HK G (hoL ri ob day G (G.length+2) 0 [(ownO l ob).getD []] [0]).1 (hoL ri ob day G (G.length+2) 0 [(ownO l ob).getD []] [0]).2:=by
 refine hoL_HK ⟨?_,rfl,?_⟩
 ·have:=cntR_le [(ownO l ob).getD []] G
  show cntR [(ownO l ob).getD []] G+1≤40
  omega
 ·intro z hz
  rw [List.mem_singleton.1 hz]
  exact ⟨Int.le_refl _,(by decide:(0:Int) < 1)⟩
def goW (of:Nm) (F:Int→List Int):List Nm→List Int→List Int × Int
 | n::L,d::K=>bif n==of then (F d,0) else goW of F L K
 | _,_=>([],7)
def whyF (G:List Gr) (of ri ob:Nm) (day:Int) (L:List Nm) (d:Int):List Int:=(exF ri ob day G of d.toNat [] (L[0]?.getD [])).1
end Vc
