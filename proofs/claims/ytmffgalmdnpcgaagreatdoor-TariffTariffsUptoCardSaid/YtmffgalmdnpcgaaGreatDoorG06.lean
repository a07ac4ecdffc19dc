import Derived.Test.YtmffgalmdnpcgaaGreatDoorG05
set_option linter.unusedSectionVars false
set_option linter.unusedVariables false
set_option linter.unusedSimpArgs false
set_option linter.unusedVariables false
set_option linter.unusedSimpArgs false
namespace Vc
open Go
noncomputable def getLr (l:List (Nat × AVal)) (i:Nat):AVal :=
 List.rec (motive:=fun _=>AVal) .undef (fun x _ ih=>Prod.rec (motive:=fun _=>AVal) (fun j u=>Bool.rec (motive:=fun _=>AVal) ih u (Nat.beq i j)) x) l
theorem getLr_eq (l:List (Nat × AVal)):getLr l=getL l:=by
 funext i
 induction l with
 | nil=>rfl
 | cons x r ih =>
  obtain ⟨j,u⟩:=x
  show (Bool.rec (getLr r i) u (Nat.beq i j):AVal)=getL ((j,u)::r) i
  simp only [getL,ih]
  cases Nat.beq i j <;> rfl
noncomputable def forceR {α β:Type} (l:List β):(List β→α)→α :=
 List.rec (motive:=fun _=>(List β→α)→α) (fun K=>K []) (fun x _ ih=>fun K=>ih fun r'=>K (x::r')) l
theorem forceR_eq {α β:Type}:∀ (l:List β) (K:List β→α),forceR l K=K l
 | [],K=>rfl
 | x::r,K=>forceR_eq r fun r'=>K (x::r')
noncomputable def dropLr (l:List (Nat × AVal)) (i:Nat):List (Nat × AVal) :=
 List.rec (motive:=fun _=>List (Nat × AVal)) [] (fun x _ ih=>Prod.rec (motive:=fun _=>List (Nat × AVal)) (fun j u=>Bool.rec (motive:=fun _=>List (Nat × AVal)) ((j,u)::ih) ih (Nat.beq i j)) x) l
theorem dropLr_eq (l:List (Nat × AVal)) (i:Nat):dropLr l i=dropL l i:=by
 induction l with
 | nil=>rfl
 | cons x r ih =>
  obtain ⟨j,u⟩:=x
  show (Bool.rec ((j,u)::dropLr r i) (dropLr r i) (Nat.beq i j):List (Nat × AVal))=dropL ((j,u)::r) i
  simp only [dropL,ih]
  cases Nat.beq i j <;> rfl
noncomputable def setLr (l:List (Nat × AVal)) (i:Nat) (v:AVal):List (Nat × AVal) :=
 List.rec (motive:=fun _=>List (Nat × AVal)) [(i,v)] (fun x r ih=>Prod.rec (motive:=fun _=>List (Nat × AVal)) (fun j u =>
  Bool.rec (motive:=fun _=>List (Nat × AVal)) (Bool.rec (motive:=fun _=>List (Nat × AVal)) ((j,u)::ih) ((i,v)::dropLr r i) (Nat.beq i j)) ((i,v)::(j,u)::dropLr r i) (Nat.blt i j)) x) l
theorem setLr_eq (l:List (Nat × AVal)) (i:Nat) (v:AVal):setLr l i v=setL l i v:=by
 induction l with
 | nil=>rfl
 | cons x r ih =>
  obtain ⟨j,u⟩:=x
  show (Bool.rec (Bool.rec ((j,u)::setLr r i v) ((i,v)::dropLr r i) (Nat.beq i j)) ((i,v)::(j,u)::dropLr r i) (Nat.blt i j):List (Nat × AVal))=setL ((j,u)::r) i v
  simp only [setL,ih,dropLr_eq]
  cases Nat.blt i j <;> cases Nat.beq i j <;> rfl
noncomputable def putLr (s:List (Nat × AVal)) (d:Option Nat) (v:AVal):List (Nat × AVal) :=
 Option.rec (motive:=fun _=>List (Nat × AVal)) s (fun d=>setLr s d v) d
theorem putLr_eq (s:List (Nat × AVal)) (d:Option Nat) (v:AVal):putLr s d v=putL s d v:=by
 cases d with
 | none=>rfl
 | some d=>exact setLr_eq s d v
noncomputable def getHr (h:List AObj):Nat→Option AObj :=
 List.rec (motive:=fun _=>Nat→Option AObj) (fun _=>none) (fun o _ ih=>fun i=>Nat.rec (motive:=fun _=>Option AObj) (some o) (fun i _=>ih i) i) h
theorem getHr_eq:∀ (h:List AObj) (i:Nat),getHr h i=getH h i
 | [],i=>rfl
 | o::r,0=>rfl
 | o::r,i+1=>getHr_eq r i
noncomputable def setHr (h:List AObj):Nat→AObj→List AObj :=
 List.rec (motive:=fun _=>Nat→AObj→List AObj) (fun _ _=>[]) (fun x r ih=>fun i o=>Nat.rec (motive:=fun _=>List AObj) (o::r) (fun i _=>x::ih i o) i) h
theorem setHr_eq:∀ (h:List AObj) (i:Nat) (o:AObj),setHr h i o=h.set i o
 | [],i,o=>rfl
 | x::r,0,o=>rfl
 | x::r,i+1,o=>congrArg (x::·) (setHr_eq r i o)
noncomputable def applyWr (ws:List (Nat × AObj)):List AObj→List AObj :=
 List.rec (motive:=fun _=>List AObj→List AObj) (fun h=>h) (fun x _ ih=>Prod.rec (motive:=fun _=>List AObj→List AObj) (fun i o=>fun h=>ih (setHr h i o)) x) ws
theorem applyWr_eq:∀ (ws:List (Nat × AObj)) (h:List AObj),applyWr ws h=applyW h ws
 | [],h=>rfl
 | (i,o)::r,h=>by
  show applyWr r (setHr h i o)=applyW (h.set i o) r
  rw [setHr_eq]; exact applyWr_eq r _
noncomputable def runEffr (e:Eff) (h:List AObj):Option (AVal × List (Nat × AObj) × List Nat) :=
 Eff.rec (motive:=fun _=>Option (AVal × List (Nat × AObj) × List Nat))
  (fun v ws=>some (v,ws,[]))
  (fun id _ ih=>match getHr h id with
   | some o=>match ih o with
    | some (v,ws,rs)=>some (v,ws,id::rs)
    | none=>none
   | none=>none)
  (fun _ _ _=>none) (fun _ _=>none) (fun _ _=>none) (fun _ _=>none)
  (fun _ ih=>match ih h with
   | some (v,ws,rs)=>some (v,ws,List.range h.length++rs)
   | none=>none)
  (fun _ _=>none) none (fun _ _=>none) e
theorem runEffr_eq:∀ (e:Eff) (h:List AObj),runEffr e h=runEff e h
 | .ret v ws,h=>rfl
 | .rd id k,h=>by
  show (match getHr h id with
   | some o=>match runEffr (k o) h with
    | some (v,ws,rs)=>some (v,ws,id::rs)
    | none=>none
   | none=>none)=runEff (.rd id k) h
  simp only [runEff,getHr_eq]
  cases getH h id with
  | none=>rfl
  | some o =>
   simp only [runEffr_eq (k o) h]
   cases runEff (k o) h <;> rfl
 | .all k,h=>by
  show (match runEffr (k h) h with
   | some (v,ws,rs)=>some (v,ws,List.range h.length++rs)
   | none=>none)=runEff (.all k) h
  simp only [runEff,runEffr_eq (k h) h]
  cases runEff (k h) h <;> rfl
 | .side p k,h=>rfl
 | .exD k,h=>rfl
 | .exI k,h=>rfl
 | .exL k,h=>rfl
 | .exA k,h=>rfl
 | .fail,h=>rfl
 | .allx ids p,h=>rfl
noncomputable def afterR (o:AOper) (st:St) (v:AVal) (ws:List (Nat × AObj)) (rs:List Nat):Option (St × Acc) :=
 forceR (putLr st.slots o.dst v) fun sl=>List.rec (motive:=fun _=>Option (St × Acc)) (some (⟨sl,st.heap⟩,⟨rs,[]⟩)) (fun w r _=>forceR (applyWr (w::r) st.heap) fun h=>some (⟨sl,h⟩,⟨rs,wids (w::r)⟩)) ws
theorem afterR_eq (o : AOper) (st : St) (v : AVal) (ws : List (Nat × AObj)) (rs : List Nat) :
  afterR o st v ws rs=forceLs (putL st.slots o.dst v) fun sl=>forceLs (applyW st.heap ws) fun h=>some (⟨sl,h⟩,⟨rs,wids ws⟩):=by
 unfold afterR
 rw [forceR_eq,forceLs_eq,forceLs_eq,putLr_eq]
 cases ws with
 | nil=>rfl
 | cons w r =>
  show forceR (applyWr (w::r) st.heap) _=_
  rw [forceR_eq,applyWr_eq]
noncomputable def effXr (C:Known) (s:Nat→AVal) (o:AOp):Eff :=
 AOp.rec (motive:=fun _=>Known→(Nat→AVal)→Eff)
  (fun a0 C s=>xMov C s a0)
  (fun a0 a1 a2 C s=>xPick C s a0 a1 a2)
  (fun a0 a1 C s=>xAlloc C s a0 a1)
  (fun a0 a1 a2 C s=>xBox C s a0 a1 a2)
  (fun a0 a1 a2 C s=>xLd C s a0 a1 a2)
  (fun a0 a1 a2 C s=>xSt C s a0 a1 a2)
  (fun a0 a1 a2 a3 C s=>xArith C s a0 a1 a2 a3)
  (fun a0 a1 a2 C s=>xCmp C s a0 a1 a2)
  (fun a0 a1 a2 C s=>xBeq C s a0 a1 a2)
  (fun a0 a1 a2 C s=>xSeq C s a0 a1 a2)
  (fun a0 a1 a2 C s=>xSlt C s a0 a1 a2)
  (fun a0 a1 C s=>xCat C s a0 a1)
  (fun a0 C s=>xNot C s a0)
  (fun a0 a1 C s=>xConv C s a0 a1)
  (fun a0 a1 C s=>xFad C s a0 a1)
  (fun a0 a1 a2 a3 C s=>xFld C s a0 a1 a2 a3)
  (fun a0 a1 a2 C s=>xIxa C s a0 a1 a2)
  (fun a0 a1 a2 a3 C s=>xIxp C s a0 a1 a2 a3)
  (fun a0 a1 a2 a3 a4 C s=>xIxv C s a0 a1 a2 a3 a4)
  (fun a0 a1 C s=>xIxs C s a0 a1)
  (fun a0 a1 C s=>xBuild C s a0 a1)
  (fun a0 a1 a2 a3 a4 a5 C s=>xBsl C s a0 a1 a2 a3 a4 a5)
  (fun a0 a1 a2 a3 a4 a5 C s=>xMsl C s a0 a1 a2 a3 a4 a5)
  (fun a0 C s=>xLen C s a0)
  (fun a0 C s=>xLens C s a0)
  (fun a0 a1 a2 a3 a4 a5 C s=>xApp C s a0 a1 a2 a3 a4 a5)
  (fun a0 a1 C s=>xMini C s a0 a1)
  (fun a0 a1 C s=>xMaxi C s a0 a1)
  (fun a0 a1 a2 C s=>xMkf C s a0 a1 a2)
  (fun a0 a1 C s=>xExt C s a0 a1)
  (fun a0 a1 C s=>xCall C s a0 a1)
  (fun a0 a1 C s=>xCalli C s a0 a1)
  (fun a0 a1 C s=>xCallvi C s a0 a1)
  (fun a0 a1 a2 C s=>xMkr C s a0 a1 a2)
  (fun a0 a1 C s=>xCallv C s a0 a1)
  (fun a0 a1 a2 a3 C s=>xSlc C s a0 a1 a2 a3)
  (fun a0 a1 a2 C s=>xSlcs C s a0 a1 a2)
  (fun a0 C s=>xNck C s a0)
  (fun a0 a1 a2 a3 C s=>xAeq C s a0 a1 a2 a3)
  (fun a0 a1 a2 a3 C s=>xBit C s a0 a1 a2 a3)
  (fun a0 a1 a2 a3 C s=>xShf C s a0 a1 a2 a3)
  (fun a0 a1 C s=>xNeg C s a0 a1)
  (fun a0 a1 C s=>xIsnil C s a0 a1)
  (fun a0 C s=>xB2s C s a0)
  (fun a0 a1 a2 C s=>xCopy C s a0 a1 a2)
  (fun a0 a1 a2 C s=>xCbx C s a0 a1 a2)
  (fun a0 a1 C s=>xRng C s a0 a1)
  (fun a0 C s=>xMkm C s a0)
  (fun _ _ _ _ _=>.fail)
  (fun n x C s=>xS2a C s n x)
  (fun _ _ _ _ _ _=>.fail)
  (fun _ _ _=>.fail)
  (fun _ _ _ _ _=>.fail)
  (fun a0 a1 a2 a3 a4 C s=>xLkp C s a0 a1 a2 a3 a4)
  (fun a0 a1 a2 a3 C s=>xMpu C s a0 a1 a2 a3)
  (fun a0 C s=>xLenm C s a0)
  (fun a0 C s=>xNxt C s a0)
  (fun a0 C s=>xI2s C s a0)
  (fun a0 a1 a2 a3 C s=>xSla C s a0 a1 a2 a3)
  (fun a0 a1 a2 a3 C s=>xSlv C s a0 a1 a2 a3)
  (fun a0 a1 a2 a3 a4 C s=>rowX C a0 a1 a2 a3 (evs s a4))
  (fun _ _ _ _ _ _=>.fail)
  (fun _ _ _ _ _=>.fail)
  (fun _ _ _ _ _ _ _=>.fail)
  (fun _ _ _=>.fail)
  (fun _ _ _ _ _=>.fail)
  (fun _ _ _ _ _=>.fail)
  (fun _ _ _ _ _=>.fail)
  (fun _ _ _ _ _ _ _ _ _=>.fail)
  (fun a0 a1 a2 a3 a4 a5 C s=>xMkb C s a0 a1 a2 a3 a4 a5)
  (fun _ _ _ _ _ _ _=>.fail)
  (fun a0 a1 a2 a3 a4 C s=>xLkps C s a0 a1 a2 a3 a4)
  (fun a0 a1 a2 a3 C s=>xMpus C s a0 a1 a2 a3)
  (fun _ _ _ _=>.fail)
  (fun _ _ _=>.fail)
  (fun _ _ _=>.fail)
  (fun _ _ _ _ _ _=>.fail)
  o C s
theorem effXr_eq (C:Known) (s:Nat→AVal) (o:AOp):effXr C s o=effX C s o:=by cases o <;> rfl
noncomputable def doXr (C:Known) (o:AOper) (st:St):Option (St × Acc) :=
 Option.rec (motive:=fun _=>Option (St × Acc)) none (fun x=>Prod.rec (motive:=fun _=>Option (St × Acc)) (fun v y=>Prod.rec (motive:=fun _=>Option (St × Acc)) (fun ws rs=>afterR o st v ws rs) y) x)
  (runEffr (effXr C (getLr st.slots) o.op) st.heap)
theorem doXr_eq (C:Known) (o:AOper) (st:St):doXr C o st=doX C o st:=by
 unfold doXr doX
 rw [runEffr_eq,effXr_eq,getLr_eq]
 cases h:runEff (effX C (getL st.slots) o.op) st.heap with
 | none=>rfl
 | some x =>
  obtain ⟨v,ws,rs⟩:=x
  exact afterR_eq o st v ws rs
noncomputable def skipXr (o:AOper) (st:St):Option (St × Acc) :=
 forceR (putLr st.slots o.dst .gone) fun sl=>some (⟨sl,st.heap⟩,⟨[],[]⟩)
theorem skipXr_eq (o:AOper) (st:St):skipXr o st=skipX o st:=by
 unfold skipXr skipX
 rw [forceR_eq,forceLs_eq,putLr_eq]
noncomputable def guardXr (C:Known) (o:AOper) (st:St) (g:Nat) (want:Bool):Option (St × Acc) :=
 match getLr st.slots g with
 | .d (.bool b)=>match b,want with
  | true,true=>doXr C o ⟨setLr st.slots g (.d (.bool true)),st.heap⟩
  | true,false=>skipXr o ⟨setLr st.slots g (.d (.bool true)),st.heap⟩
  | false,true=>skipXr o ⟨setLr st.slots g (.d (.bool false)),st.heap⟩
  | false,false=>doXr C o ⟨setLr st.slots g (.d (.bool false)),st.heap⟩
 | .gone=>skipXr o st
 | _=>none
noncomputable def opXr (C:Known) (o:AOper) (st:St):Option (St × Acc) :=
 Option.rec (motive:=fun _=>Option (St × Acc)) (doXr C o st) (fun p=>Prod.rec (motive:=fun _=>Option (St × Acc)) (fun g want=>guardXr C o st g want) p) o.guard
theorem opXr_eq (C:Known) (o:AOper) (st:St):opXr C o st=opX C o st:=by
 unfold opXr opX
 cases hg:o.guard with
 | none=>exact doXr_eq C o st
 | some p =>
  obtain ⟨g,want⟩:=p
  simp only [guardXr,getLr_eq,setLr_eq,doXr_eq,skipXr_eq]
  generalize getL st.slots g=v
  cases v with
  | d d=>cases d with
   | bool b=>cases b <;> cases want <;> rfl
   | _=>rfl
  | _=>rfl
noncomputable def opsXr (C:Known) (xs:List AOper):St→List Acc→Option (St × List Acc) :=
 List.rec (motive:=fun _=>St→List Acc→Option (St × List Acc)) (fun st acc=>some (st,acc))
  (fun o _ ih=>fun st acc=>Option.rec (motive:=fun _=>Option (St × List Acc)) none (fun x=>Prod.rec (motive:=fun _=>Option (St × List Acc)) (fun st' a=>ih st' (a::acc)) x) (opXr C o st)) xs
theorem opsXr_eq (C:Known):∀ (xs:List AOper) (st:St) (acc:List Acc),opsXr C xs st acc=opsX C xs st acc
 | [],st,acc=>rfl
 | o::r,st,acc=>by
  show (Option.rec none (fun x=>Prod.rec (fun st' a=>opsXr C r st' (a::acc)) x) (opXr C o st):Option (St × List Acc))=opsX C (o::r) st acc
  simp only [opsX,opXr_eq]
  cases opX C o st with
  | none=>rfl
  | some x =>
   obtain ⟨st',a⟩:=x
   exact opsXr_eq C r st' (a::acc)
noncomputable def clearXr (rs:List Nat):St→St :=
 List.rec (motive:=fun _=>St→St) (fun st=>st) (fun r _ ih=>fun st=>match getHr st.heap r with
  | some .none=>ih st
  | some _=>match noRefS r st.slots&&noRefH r st.heap with
   | true=>forceR (setHr st.heap r .none) fun h=>ih ⟨st.slots,h⟩
   | false=>ih st
  | none=>ih st) rs
theorem setNone_same {h:List AObj} {r:Nat} (e:h[r]?=none∨h[r]?=some .none):h.set r .none=h:=by
 apply List.ext_getElem?
 intro j
 by_cases hj:r=j
 ·subst hj
  rcases e with e | e
  ·have:=List.getElem?_eq_none_iff.1 e
   rw [e,List.getElem?_eq_none (by simpa using this)]
  ·have:=(List.getElem?_eq_some_iff.1 e).1
   rw [e]; simp [this]
 ·rw [List.getElem?_set_ne hj]
theorem clearXr_eq:∀ (rs:List Nat) (st:St),clearXr rs st=clearX rs st
 | [],st=>rfl
 | r::rs,st=>by
  show (match getHr st.heap r with
   | some .none=>clearXr rs st
   | some _=>match noRefS r st.slots&&noRefH r st.heap with
    | true=>forceR (setHr st.heap r .none) fun h=>clearXr rs ⟨st.slots,h⟩
    | false=>clearXr rs st
   | none=>clearXr rs st)=clearX (r::rs) st
  simp only [clearX,forceLs_eq,forceR_eq,setHr_eq,getHr_eq,getH_eq]
  have same:(st.heap[r]?=none∨st.heap[r]?=some .none)→clearX rs st=(match noRefS r st.slots&&noRefH r st.heap with
   | true=>clearX rs ⟨st.slots,st.heap.set r .none⟩
   | false=>clearX rs st):=by
   intro e
   rw [setNone_same e]
   split <;> rfl
  cases hh:st.heap[r]? with
  | none =>
   show clearXr rs st=_
   rw [clearXr_eq rs st,same (.inl hh)]
   cases noRefS r st.slots&&noRefH r st.heap <;> rfl
  | some o =>
   cases o with
   | none =>
    show clearXr rs st=_
    rw [clearXr_eq rs st,same (.inr hh)]
    cases noRefS r st.slots&&noRefH r st.heap <;> rfl
   | _ =>
    simp only [clearXr_eq rs]
    cases noRefS r st.slots&&noRefH r st.heap <;> rfl
noncomputable def keepLr (ks:List Nat) (l:List (Nat × AVal)):List (Nat × AVal) :=
 List.rec (motive:=fun _=>List (Nat × AVal)) [] (fun x _ ih=>Prod.rec (motive:=fun _=>List (Nat × AVal)) (fun i v =>
  Bool.rec (motive:=fun _=>List (Nat × AVal)) ih ((i,v)::ih) (List.rec (motive:=fun _=>Bool) false (fun k _ b=>Bool.rec (motive:=fun _=>Bool) b true (Nat.beq i k)) ks)) x) l
theorem anyR (i:Nat):∀ ks:List Nat,(List.rec (motive:=fun _=>Bool) false (fun k _ b=>Bool.rec (motive:=fun _=>Bool) b true (Nat.beq i k)) ks:Bool)=ks.any (Nat.beq i)
 | []=>rfl
 | k::ks=>by
  show (Bool.rec _ true (Nat.beq i k):Bool)=_
  rw [anyR i ks]
  simp only [List.any_cons]
  cases Nat.beq i k <;> rfl
theorem keepLr_eq (ks:List Nat) (l:List (Nat × AVal)):keepLr ks l=keepL ks l:=by
 induction l with
 | nil=>rfl
 | cons x r ih =>
  obtain ⟨i,v⟩:=x
  show (Bool.rec (keepLr ks r) ((i,v)::keepLr ks r) (List.rec (motive:=fun _=>Bool) false (fun k _ b=>Bool.rec (motive:=fun _=>Bool) b true (Nat.beq i k)) ks):List (Nat × AVal))=_
  rw [anyR]
  simp only [keepL,ih]
  cases ks.any (Nat.beq i) <;> rfl
noncomputable def setXr (st:St) (ks gs:List Nat):St:=forceR (keepLr ks st.slots) fun sl=>clearXr gs ⟨sl,st.heap⟩
theorem setXr_eq (st:St) (ks gs:List Nat):setXr st ks gs=setX st ks gs:=by
 unfold setXr setX
 rw [forceR_eq,forceLs_eq,keepLr_eq,clearXr_eq]
abbrev Out:=Option (AExit × St)
section
variable (P : Program) (vs : Env) (T : Tab) (lib : FuncId → List AVal → Option (List Data)) (ih : Runner) (n top : Nat)
noncomputable def sReg (clr:List Nat) (ops:List AOper) (st:St):Out :=
 Option.rec (motive:=fun _=>Out) none (fun x=>Prod.rec (motive:=fun _=>Out) (fun st' _=>some (.normal,st')) x) (opsXr ⟨detX T lib ih,inX T ih top,yldR ih top,vs.vars,vs.row⟩ ops (clearXr clr st) [])
noncomputable def sRegd (clr:List Nat) (ops:List AOper) (un:List (Nat × Nat)) (st:St):Out :=
 Option.rec (motive:=fun _=>Out) none (fun x=>Prod.rec (motive:=fun _=>Out) (fun st' acc=>Bool.rec (motive:=fun _=>Out) none (some (.normal,st')) (accOk un acc.reverse)) x) (opsXr ⟨detX T lib ih,inX T ih top,yldR ih top,vs.vars,vs.row⟩ ops (clearXr clr st) [])
noncomputable def sSeq (a b:ACode) (st:St):Out :=
 Option.rec (motive:=fun _=>Out) none (fun x=>Prod.rec (motive:=fun _=>Out) (fun e st'=>AExit.rec (motive:=fun _=>Out) (ih n top b st') (fun i=>some (.exit i,st')) (some (.ret,st')) e) x) (ih n top a st)
noncomputable def sCond (c:Opd) (a b:ACode) (st:St):Out :=
 match ev (getLr st.slots) c with
 | .d (.bool x)=>Bool.rec (motive:=fun _=>Out) (ih n top b st) (ih n top a st) x
 | .anyn false (_::_)=>ih n top b st
 | .anyn true (_::_)=>ih n top a st
 | _=>none
noncomputable def sBlock (id:Nat) (c:ACode) (st:St):Out :=
 Option.rec (motive:=fun _=>Out) none (fun x=>Prod.rec (motive:=fun _=>Out) (fun e st'=>AExit.rec (motive:=fun _=>Out) (some (.normal,st')) (fun i=>Bool.rec (motive:=fun _=>Out) (some (.exit i,st')) (some (.normal,st')) (Nat.beq i id)) (some (.ret,st')) e) x) (ih n top c st)
noncomputable def sLoop (c:ACode) (st:St):Out :=
 Option.rec (motive:=fun _=>Out) none (fun x=>Prod.rec (motive:=fun _=>Out) (fun e st'=>AExit.rec (motive:=fun _=>Out) (ih n top (.loop c) st') (fun i=>some (.exit i,st')) (some (.ret,st')) e) x) (ih n top c st)
noncomputable def sPost (ks gs:List Nat) (c:ACode) (st:St):Out :=
 Option.rec (motive:=fun _=>Out) none (fun x=>Prod.rec (motive:=fun _=>Out) (fun e st'=>AExit.rec (motive:=fun _=>Out) (some (.normal,setXr st' ks gs)) (fun i=>some (.exit i,st')) (some (.ret,st')) e) x) (ih n top c st)
noncomputable def stepXr (x:ACode) (st:St):Out :=
 ACode.rec (motive:=fun _=>Program→Env→Tab→(FuncId→List AVal→Option (List Data))→Runner→Nat→Nat→St→Out)
  (fun P vs T lib ih n top st=>some (.normal,st))
  (fun clr ops P vs T lib ih n top st=>sReg vs T lib ih top clr ops st)
  (fun clr ops un P vs T lib ih n top st=>sRegd vs T lib ih top clr ops un st)
  (fun a b _ _ P vs T lib ih n top st=>sSeq ih n top a b st)
  (fun c a b _ _ P vs T lib ih n top st=>sCond ih n top c a b st)
  (fun id c _ P vs T lib ih n top st=>sBlock ih n top id c st)
  (fun c _ P vs T lib ih n top st=>sLoop ih n top c st)
  (fun i P vs T lib ih n top st=>some (.exit i,st))
  (fun c _ P vs T lib ih n top st=>ih n top c st)
  (fun P vs T lib ih n top st=>some (.ret,st))
  (fun ks gs c _ P vs T lib ih n top st=>ih n top c (setXr st ks gs))
  (fun ks gs c _ P vs T lib ih n top st=>sPost ih n top ks gs c st)
  (fun r t sz s c _ P vs T lib ih n top st=>stepX P vs T lib ih n top (.asrow r t sz s c) st)
  (fun s c _ P vs T lib ih n top st=>stepX P vs T lib ih n top (.asdat s c) st)
  (fun r f ps xa xb _ _ P vs T lib ih n top st=>stepX P vs T lib ih n top (.rfor r f ps xa xb) st)
  (fun P vs T lib ih n top st=>none)
  (fun _ _ _ P vs T lib ih n top st=>none)
  (fun _ _ _ _ _ P vs T lib ih n top st=>none)
  x P vs T lib ih n top st
theorem stepXr_eq (x:ACode) (st:St):stepXr P vs T lib ih n top x st=stepX P vs T lib ih n top x st:=by
 cases x with
 | reg clr ops =>
  simp only [stepXr,sReg,stepX,opsXr_eq,clearXr_eq]
  cases opsX _ ops (clearX clr st) [] with
  | none=>rfl
  | some x=>rfl
 | regd clr ops un =>
  simp only [stepXr,sRegd,stepX,opsXr_eq,clearXr_eq]
  cases opsX _ ops (clearX clr st) [] with
  | none=>rfl
  | some x =>
   obtain ⟨s,acc⟩:=x
   simp only
   cases accOk un acc.reverse <;> rfl
 | seq a b =>
  simp only [stepXr,sSeq,stepX]
  cases ih n top a st with
  | none=>rfl
  | some x=>obtain ⟨e,s⟩:=x; cases e <;> rfl
 | cond c a b =>
  simp only [stepXr,sCond,stepX,getLr_eq]
  generalize ev (getL st.slots) c=v
  cases v <;> try rfl
  ·rename_i d
   cases d <;> try rfl
   rename_i x
   cases x <;> rfl
  ·rename_i q es
   cases q <;> cases es <;> rfl
 | block id c =>
  simp only [stepXr,sBlock,stepX]
  cases ih n top c st with
  | none=>rfl
  | some x =>
   obtain ⟨e,s⟩:=x
   cases e with
   | exit i=>simp only; cases Nat.beq i id <;> rfl
   | _=>rfl
 | loop c =>
  simp only [stepXr,sLoop,stepX]
  cases ih n top c st with
  | none=>rfl
  | some x=>obtain ⟨e,s⟩:=x; cases e <;> rfl
 | post ks gs c =>
  simp only [stepXr,sPost,stepX,setXr_eq]
  cases ih n top c st with
  | none=>rfl
  | some x=>obtain ⟨e,s⟩:=x; cases e <;> rfl
 | keep ks gs c=>simp only [stepXr,stepX,setXr_eq]
 | _=>rfl
end
noncomputable def machR (P:Program) (vs:Env) (T:Tab) (lib:FuncId→List AVal→Option (List Data)) (fuel:Nat):Runner :=
 Nat.rec (motive:=fun _=>Runner) (fun _ _ _ _=>none) (fun _ ih=>fun n top x st=>stepXr P vs T lib ih n top x st) fuel
theorem machR_eq (P:Program) (vs:Env) (T:Tab) (lib:FuncId→List AVal→Option (List Data)):∀ fuel,machR P vs T lib fuel=mach P vs T lib fuel
 | 0=>rfl
 | fuel+1=>by
  funext n top x st
  show stepXr P vs T lib (machR P vs T lib fuel) n top x st=_
  rw [stepXr_eq,machR_eq P vs T lib fuel]
  rfl
noncomputable def callFR (P:Program) [Laid P] (row:FuncId→List AVal→Option (Nat × Nat × List Data)) (T:Tab) (lib:FuncId→List AVal→Option (List Data)) (fuel:Nat) (f:FuncId) (args:List AVal):Option (List Data) :=
 detX T lib (machR P ⟨Laid.vars P,row⟩ T lib fuel) f args
theorem callFR_eq (P:Program) [Laid P] (row:FuncId→List AVal→Option (Nat × Nat × List Data)) (T:Tab) (lib:FuncId→List AVal→Option (List Data)) (fuel:Nat) (f:FuncId) (args:List AVal):callFR P row T lib fuel f args=callDR P row T lib fuel f args:=by
 unfold callFR callDR
 rw [machR_eq]
end Vc
