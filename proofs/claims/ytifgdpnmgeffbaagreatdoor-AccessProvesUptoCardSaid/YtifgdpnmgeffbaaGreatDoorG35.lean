import Derived.Test.YtifgdpnmgeffbaaGreatDoorG31
import Derived.Test.YtifgdpnmgeffbaaGreatDoorG32
import Derived.Test.YtifgdpnmgeffbaaGreatDoorG33
import Derived.Test.YtifgdpnmgeffbaaGreatDoorG34
set_option linter.unusedSectionVars false
set_option linter.unusedVariables false
set_option linter.unusedSimpArgs false
set_option maxRecDepth 100000
namespace Vc
open Go Go.Proofs
def memo09:List (FuncId × List AVal × List Data):=[(48,memA0,memR0),(48,memA1,memR1),(50,memA2,memR2),(30,memA3,memR3)]
def memGet:List (FuncId × List AVal × List Data)→FuncId→List AVal→Option (List Data)
 | [],_,_=>none
 | (g,a,r)::t,f,xs=>match Nat.beq g f&&eqVs a xs with
  | true=>some r
  | false=>memGet t f xs
def MemOk:List (FuncId × List AVal × List Data)→Prop
 | []=>True
 | (g,a,r)::t=>CallDet Tryz.prog g a r∧MemOk t
theorem memGet_good:∀ {l:List (FuncId × List AVal × List Data)},MemOk l→∀ f xs rs,memGet l f xs=some rs→CallDet Tryz.prog f xs rs
 | [],_,_,_,_,h=>by cases h
 | (g,a,r)::t,⟨h1,h2⟩,f,xs,rs,h=>by
  simp only [memGet] at h
  split at h
  ·rename_i hb
   simp only [Bool.and_eq_true] at hb
   have e1:=Nat.eq_of_beq_eq_true hb.1
   have e2:=eqVs_eq hb.2
   subst e1 e2
   cases h
   exact h1
  ·exact memGet_good h2 f xs rs h
theorem memo09_ok:MemOk memo09:=⟨mem0,mem1,mem2,mem3,trivial⟩
def lib09m (f:FuncId) (xs:List AVal):Option (List Data) :=
 match memGet memo09 f xs with
 | some r=>some r
 | none=>lib09 f xs
theorem lib09m_good (f:FuncId) (xs:List AVal) (rs:List Data) (h:lib09m f xs=some rs):CallDet Tryz.prog f xs rs:=by
 unfold lib09m at h
 split at h
 ·rename_i r hr
  cases h
  exact memGet_good memo09_ok f xs _ hr
 ·exact lib09_good f xs rs h
def without (l:List Nat):TabL→TabL
 | []=>[]
 | (f,k,x)::r=>match l.any (Nat.beq f) with
  | true=>without l r
  | false=>(f,k,x)::without l r
theorem chkT_without {P:Program} {l:List Nat}:∀ {t:TabL},chkT P t=true→chkT P (without l t)=true
 | [],h=>h
 | (f,k,x)::r,h=>by
  simp only [chkT,Bool.and_eq_true] at h
  simp only [without]
  split
  ·exact chkT_without h.2
  ·simp only [chkT,Bool.and_eq_true]
   exact ⟨h.1,chkT_without h.2⟩
theorem c13:CallDet Tryz.prog 13 [] [.bool true] :=
 callDR_good row09_good (chkT_spec (chkT_room (m:=20) (chkT_without (l:=[30,48,50]) tab09_chk))) lib09m_good (fuel:=100000) ((callFR_eq _ _ _ _ _ _ _).symm.trans (show callFR Tryz.prog row09 (getT (roomT 20 (without [30,48,50] tab09))) lib09m 100000 13 []=some [.bool true] by kernel_rfl))
end Vc
