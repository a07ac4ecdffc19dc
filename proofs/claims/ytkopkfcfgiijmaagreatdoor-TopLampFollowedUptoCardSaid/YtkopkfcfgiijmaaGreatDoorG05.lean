import Derived.Test.YtkopkfcfgiijmaaGreatDoorG04
set_option linter.unusedSectionVars false
set_option linter.unusedVariables false
set_option linter.unusedSimpArgs false
set_option linter.unusedVariables false
namespace Vc
open Go
def getH:List AObj→Nat→Option AObj
 | [],_=>none
 | o::_,0=>some o
 | _::r,i+1=>getH r i
def runEff:Eff→List AObj→Option (AVal × List (Nat × AObj) × List Nat)
 | .ret v ws,_=>some (v,ws,[])
 | .rd id k,h=>match getH h id with
  | some o=>match runEff (k o) h with
   | some (v,ws,rs)=>some (v,ws,id::rs)
   | none=>none
  | none=>none
 | .all k,h=>match runEff (k h) h with
  | some (v,ws,rs)=>some (v,ws,List.range h.length++rs)
  | none=>none
 | _,_=>none
def kEq (a b:IntKind):Bool :=
 match a,b with
 | .i64,.i64 | .u8,.u8 | .i32,.i32 | .u32,.u32 | .u64,.u64 | .i8,.i8 | .i16,.i16 | .u16,.u16=>true
 | _,_=>false
mutual
def pvX:AVal→(AVal→List (Nat × AObj)→Eff)→Eff
 | .sl id m,k=>.rd id fun o=>match o with
  | .row t sz es _=>match Nat.beq es.length m with
   | true=>k (.d (.slice sz es)) [(id,.row t sz es true)]
   | false=>.fail
  | _=>.fail
 | .nils sz,k=>k (.d (.slice sz [])) []
 | .agg vs,k=>pvsX vs fun ds ws=>k (.d (.agg ds)) ws
 | .d x,k=>k (.d x) []
 | .cp cs o,k=>k (.cp cs o) []
 | _,_=>.fail
def pvsX:List AVal→(List Data→List (Nat × AObj)→Eff)→Eff
 | [],k=>k [] []
 | v::vs,k=>pvX v fun x ws=>match x with
  | .d d=>pvsX vs fun ds ws'=>k (d::ds) (ws++ws')
  | _=>.fail
end
structure Known where
 det:FuncId→List AVal→Option (List Data)
 inn:FuncId→List AVal→List AObj→Option (AVal × List AObj)
 yld:Nat→List AVal→List AObj→Option (AVal × List AObj)
mutual
def eqD:Data→Data→Bool
 | .int k n,.int k' n'=>kEq k k'&&(n==n')
 | .bool a,.bool b=>a==b
 | .str a,.str b=>a==b
 | .agg a,.agg b=>eqDs a b
 | .slice z a,.slice z' b=>Nat.beq z z'&&eqDs a b
 | .fn (.func f) a,.fn (.func g) b=>Nat.beq f g&&eqDs a b
 | _,_=>false
def eqDs:List Data→List Data→Bool
 | [],[]=>true
 | a::r,b::s=>eqD a b&&eqDs r s
 | _,_=>false
end
mutual
def eqV:AVal→AVal→Bool
 | .d a,.d b=>eqD a b
 | .nils a,.nils b=>Nat.beq a b
 | .sl a n,.sl b m=>Nat.beq a b&&Nat.beq n m
 | .ptr a n,.ptr b m=>Nat.beq a b&&Nat.beq n m
 | .mp a,.mp b=>Nat.beq a b
 | .cp a n,.cp b m=>eqDs a b&&Nat.beq n m
 | .fn (.func f) a c,.fn (.func g) b d=>Nat.beq f g&&(eqVs a b&&eqVs c d)
 | .undef,.undef=>true
 | .gone,.gone=>true
 | .yld a,.yld b=>Nat.beq a b
 | _,_=>false
def eqVs:List AVal→List AVal→Bool
 | [],[]=>true
 | a::r,b::s=>eqV a b&&eqVs r s
 | _,_=>false
end
abbrev Tab:=FuncId→Option (Nat × AFun)
abbrev Runner:=Nat→Nat→ACode→St→Option (AExit × St)
end Vc
set_option linter.unusedVariables false
set_option linter.unusedSimpArgs false
namespace Vc
open Go
theorem getH_eq:∀ (h:List AObj) (i:Nat),getH h i=h[i]?
 | [],_=>by simp [getH]
 | o::r,0=>by simp [getH]
 | o::r,i+1=>by simp [getH,getH_eq r i]
def Ok (kx k:Eff):Prop:=∀ h v ws rs,runEff kx h=some (v,ws,rs)→ERun k h v ws rs
theorem ok_fail {k:Eff}:Ok .fail k:=fun h v ws rs e=>by simp [runEff] at e
theorem ok_rd {id:Nat} {kx k:AObj→Eff} (h:∀ o,Ok (kx o) (k o)):Ok (.rd id kx) (.rd id k):=fun hp v ws rs e=>by
 simp only [runEff,getH_eq] at e
 split at e
 ·rename_i o ho
  split at e
  ·rename_i v' ws' rs' he
   cases e
   exact ⟨o,rs',ho,rfl,h o hp _ _ _ he⟩
  ·cases e
 ·cases e
theorem ok_side {p:Prop} {kx k:Eff} (hp:p) (h:Ok kx k):Ok kx (.side p k):=fun hh v ws rs e=>⟨hp,h hh v ws rs e⟩
theorem nb {a b:Nat} (h:Nat.beq a b=true):a=b:=Nat.eq_of_beq_eq_true h
theorem nle {a b:Nat} (h:Nat.ble a b=true):a≤b:=Nat.le_of_ble_eq_true h
theorem nlt {a b:Nat} (h:Nat.blt a b=true):a < b:=by simpa [Nat.blt_eq] using h
theorem kEq_eq {a b:IntKind} (h:kEq a b=true):a=b:=by cases a <;> cases b <;> first | rfl | cases h
mutual
theorem pvX_ok:∀ (v:AVal) {kx k:AVal→List (Nat × AObj)→Eff},(∀ x ws,Ok (kx x ws) (k x ws))→Ok (pvX v kx) (pv v k)
 | .sl id m,kx,k,h=>by
  simp only [pvX,pv]
  refine ok_rd fun o=>?_
  cases o <;> try exact ok_fail
  rename_i t sz es fz
  simp only
  split
  ·rename_i hb; exact ok_side (nb hb) (h _ _)
  ·exact ok_fail
 | .nils sz,kx,k,h=>by simp only [pvX,pv]; exact h _ _
 | .agg vs,kx,k,h=>by simp only [pvX,pv]; exact pvsX_ok vs fun ds ws=>h _ _
 | .d x,kx,k,h=>by simp only [pvX,pv]; exact h _ _
 | .cp cs o,kx,k,h=>by simp only [pvX,pv]; exact h _ _
 | .ptr _ _,_,_,_=>ok_fail
 | .ep _ _ _ _,_,_,_=>ok_fail
 | .rv _ _ _ _,_,_,_=>ok_fail
 | .mp _,_,_,_=>ok_fail
 | .it _,_,_,_=>ok_fail
 | .fn _ _ _,_,_,_=>ok_fail
 | .tup _,_,_,_=>ok_fail
 | .undef,_,_,_=>ok_fail
 | .gone,_,_,_=>ok_fail
 | .anyn _ _,_,_,_=>ok_fail
 | .bv _ _ _,_,_,_=>ok_fail
 | .yld _,_,_,_=>ok_fail
 | .gp _ _,_,_,_=>ok_fail
theorem pvsX_ok:∀ (vs:List AVal) {kx k:List Data→List (Nat × AObj)→Eff},(∀ x ws,Ok (kx x ws) (k x ws))→Ok (pvsX vs kx) (pvs vs k)
 | [],kx,k,h=>by simp only [pvsX,pvs]; exact h _ _
 | v::vs,kx,k,h=>by
  simp only [pvsX,pvs]
  refine pvX_ok v fun x ws=>?_
  cases x <;> try exact ok_fail
  exact pvsX_ok vs fun ds ws'=>h _ _
end
mutual
theorem eqD_eq:∀ {a b:Data},eqD a b=true→a=b
 | .int k n,b,h=>by
  cases b <;> simp only [eqD,Bool.false_eq_true] at h
  simp only [Bool.and_eq_true,beq_iff_eq] at h
  rw [kEq_eq h.1,h.2]
 | .bool x,b,h=>by
  cases b <;> simp only [eqD,Bool.false_eq_true] at h
  simp only [beq_iff_eq] at h; rw [h]
 | .str x,b,h=>by
  cases b <;> simp only [eqD,Bool.false_eq_true] at h
  simp only [beq_iff_eq] at h; rw [h]
 | .agg x,b,h=>by
  cases b <;> simp only [eqD,Bool.false_eq_true] at h
  rw [eqDs_eq h]
 | .slice z x,b,h=>by
  cases b <;> simp only [eqD,Bool.false_eq_true] at h
  simp only [Bool.and_eq_true] at h
  rw [nb h.1,eqDs_eq h.2]
 | .fn f x,b,h=>by
  cases b <;> cases f <;> try (simp only [eqD,Bool.false_eq_true] at h; done)
  rename_i g y f
  cases g <;> simp only [eqD,Bool.false_eq_true] at h
  simp only [Bool.and_eq_true] at h
  rw [nb h.1,eqDs_eq h.2]
theorem eqDs_eq:∀ {a b:List Data},eqDs a b=true→a=b
 | [],b,h=>by cases b <;> first | rfl | (simp only [eqDs,Bool.false_eq_true] at h)
 | a::r,b,h=>by
  cases b <;> simp only [eqDs,Bool.false_eq_true] at h
  simp only [Bool.and_eq_true] at h
  rw [eqD_eq h.1,eqDs_eq h.2]
end
mutual
theorem eqV_eq:∀ {a b:AVal},eqV a b=true→a=b
 | .d x,b,h=>by
  cases b <;> simp only [eqV,Bool.false_eq_true] at h
  rw [eqD_eq h]
 | .nils x,b,h=>by
  cases b <;> simp only [eqV,Bool.false_eq_true] at h
  rw [nb h]
 | .sl x n,b,h=>by
  cases b <;> simp only [eqV,Bool.false_eq_true] at h
  simp only [Bool.and_eq_true] at h
  rw [nb h.1,nb h.2]
 | .ptr x n,b,h=>by
  cases b <;> simp only [eqV,Bool.false_eq_true] at h
  simp only [Bool.and_eq_true] at h
  rw [nb h.1,nb h.2]
 | .mp x,b,h=>by
  cases b <;> simp only [eqV,Bool.false_eq_true] at h
  rw [nb h]
 | .cp x n,b,h=>by
  cases b <;> simp only [eqV,Bool.false_eq_true] at h
  simp only [Bool.and_eq_true] at h
  rw [eqDs_eq h.1,nb h.2]
 | .fn f x y,b,h=>by
  cases b <;> cases f <;> try (simp only [eqV,Bool.false_eq_true] at h; done)
  rename_i g z u f
  cases g <;> simp only [eqV,Bool.false_eq_true] at h
  simp only [Bool.and_eq_true] at h
  rw [nb h.1,eqVs_eq h.2.1,eqVs_eq h.2.2]
 | .undef,b,h=>by cases b <;> first | rfl | (simp only [eqV,Bool.false_eq_true] at h)
 | .gone,b,h=>by cases b <;> first | rfl | (simp only [eqV,Bool.false_eq_true] at h)
 | .yld x,b,h=>by
  cases b <;> simp only [eqV,Bool.false_eq_true] at h
  rw [nb h]
 | .rv _ _ _ _,b,h=>by cases b <;> simp only [eqV,Bool.false_eq_true] at h
 | .ep _ _ _ _,b,h=>by cases b <;> simp only [eqV,Bool.false_eq_true] at h
 | .it _,b,h=>by cases b <;> simp only [eqV,Bool.false_eq_true] at h
 | .agg _,b,h=>by cases b <;> simp only [eqV,Bool.false_eq_true] at h
 | .tup _,b,h=>by cases b <;> simp only [eqV,Bool.false_eq_true] at h
 | .anyn _ _,b,h=>by cases b <;> simp only [eqV,Bool.false_eq_true] at h
 | .bv _ _ _,b,h=>by cases b <;> simp only [eqV,Bool.false_eq_true] at h
 | .gp _ _,b,h=>by cases b <;> simp only [eqV,Bool.false_eq_true] at h
theorem eqVs_eq:∀ {a b:List AVal},eqVs a b=true→a=b
 | [],b,h=>by cases b <;> first | rfl | (simp only [eqVs,Bool.false_eq_true] at h)
 | a::r,b,h=>by
  cases b <;> simp only [eqVs,Bool.false_eq_true] at h
  simp only [Bool.and_eq_true] at h
  rw [eqV_eq h.1,eqVs_eq h.2]
end
structure Known.Good (P:Program) [Laid P] (C:Known):Prop where
 det:∀ f xs rs,C.det f xs=some rs→CallDet P f xs rs
 inn:∀ f xs h v h',C.inn f xs h=some (v,h')→CallIn P f xs h v h'
 yld:∀ id xs h v h',C.yld id xs h=some (v,h')→YieldIn P id xs h v h'
section
variable {P : Program} [Laid P] {C : Known} (hC : C.Good P)
include hC
end
section
variable {P : Program} [Laid P] {C : Known} (hC : C.Good P)
include hC
end
end Vc
set_option linter.unusedVariables false
set_option linter.unusedSimpArgs false
namespace Vc
open Go
section
variable {P : Program} [Laid P] {C : Known} (hC : C.Good P)
include hC
omit hC in
end
def Runs (P:Program) [Laid P] (ih:Runner):Prop:=∀ n top x st e st',ih n top x st=some (e,st')→vc P n x st fun e' s'=>e'=e∧s'=st'
mutual
theorem pv_k {h:List AObj}:∀ (x:AVal) {k:AVal→List (Nat × AObj)→Eff} {v:AVal} {ws:List (Nat × AObj)} {rd:List Nat},ERun (pv x k) h v ws rd→∃ y ws' rd',ERun (k y ws') h v ws rd'
 | .sl id m,k,v,ws,rd,he=>by
  simp only [pv] at he
  obtain ⟨o,rs',_,_,he⟩:=he
  cases o <;> simp only [ERun] at he <;> try exact he.elim
  exact ⟨_,_,_,he.2⟩
 | .nils sz,k,v,ws,rd,he=>⟨_,_,_,by simpa only [pv] using he⟩
 | .agg vs,k,v,ws,rd,he=>by
  simp only [pv] at he
  obtain ⟨y,ws',rd',h1⟩:=pvs_k vs he
  exact ⟨_,_,_,h1⟩
 | .d x,k,v,ws,rd,he=>⟨_,_,_,by simpa only [pv] using he⟩
 | .cp cs o,k,v,ws,rd,he=>⟨_,_,_,by simpa only [pv] using he⟩
 | .ptr _ _,_,_,_,_,he=>by simp [pv,ERun] at he
 | .ep _ _ _ _,_,_,_,_,he=>by simp [pv,ERun] at he
 | .rv _ _ _ _,_,_,_,_,he=>by simp [pv,ERun] at he
 | .mp _,_,_,_,_,he=>by simp [pv,ERun] at he
 | .it _,_,_,_,_,he=>by simp [pv,ERun] at he
 | .fn _ _ _,_,_,_,_,he=>by simp [pv,ERun] at he
 | .tup _,_,_,_,_,he=>by simp [pv,ERun] at he
 | .undef,_,_,_,_,he=>by simp [pv,ERun] at he
 | .gone,_,_,_,_,he=>by simp [pv,ERun] at he
 | .anyn _ _,_,_,_,_,he=>by simp [pv,ERun] at he
 | .bv _ _ _,_,_,_,_,he=>by simp [pv,ERun] at he
 | .yld _,_,_,_,_,he=>by simp [pv,ERun] at he
 | .gp _ _,_,_,_,_,he=>by simp [pv,ERun] at he
theorem pvs_k {h:List AObj}:∀ (xs:List AVal) {k:List Data→List (Nat × AObj)→Eff} {v:AVal} {ws:List (Nat × AObj)} {rd:List Nat},ERun (pvs xs k) h v ws rd→∃ y ws' rd',ERun (k y ws') h v ws rd'
 | [],k,v,ws,rd,he=>⟨_,_,_,by simpa only [pvs] using he⟩
 | x::xs,k,v,ws,rd,he=>by
  simp only [pvs] at he
  obtain ⟨y,ws',rd',h1⟩:=pv_k x he
  cases y <;> simp only [ERun] at h1 <;> try exact h1.elim
  obtain ⟨z,ws2,rd2,h2⟩:=pvs_k xs h1
  exact ⟨_,_,_,h2⟩
end
section
variable {P : Program} [Laid P] {Tb : Tab} {lib : FuncId → List AVal → Option (List Data)} {ih : Runner}
 (hT:∀ f k x,Tb f=some (k,x)→chkFun P f x=true) (hL:∀ f xs rs,lib f xs=some rs→CallDet P f xs rs) (hR:Runs P ih)
include hT hL hR
omit hL in
omit hT hL in
end
end Vc
set_option linter.unusedVariables false
namespace Vc
open Go
end Vc
