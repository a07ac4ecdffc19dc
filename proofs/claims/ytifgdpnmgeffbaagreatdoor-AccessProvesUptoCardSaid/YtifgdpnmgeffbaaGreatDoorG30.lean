import Derived.Test.YtifgdpnmgeffbaaGreatDoorG10
set_option linter.unusedSectionVars false
set_option linter.unusedVariables false
set_option linter.unusedSimpArgs false
set_option maxRecDepth 10000
namespace Vc
open Go Go.Proofs
def pcsOf:List Data→Option (List (List Data))
 | []=>some []
 | .slice 1 s::r=>match pcsOf r with
  | some l=>some (s::l)
  | none=>none
 | _::_=>none
theorem pcsOf_map:∀ {es:List Data} {l:List (List Data)},pcsOf es=some l→es=pcs l
 | [],l,h=>by simp [pcsOf] at h; subst h; rfl
 | d::r,l,h=>by
  unfold pcsOf at h
  split at h
  ·rename_i e; cases e
  ·rename_i s r' e
   cases e
   split at h
   ·rename_i l' h'
    cases h
    rw [pcsOf_map h']; rfl
   ·cases h
  ·cases h
def join09 (xs:List AVal):Option (List Data) :=
 match xs with
 | [.d (.slice 1 es),.d (.str sep)]=>match strsOf es with
  | some l=>match Nat.ble l.length 140737488355328&&Nat.ble (Lib.join l sep).length 140737488355328 with
   | true=>forceLs (Lib.join l sep) fun s=>some [.str s]
   | false=>none
  | none=>none
 | _=>none
def clone09 (xs:List AVal):Option (List Data) :=
 match xs with
 | [.d (.slice 1 es)]=>match Nat.ble es.length 1048576 with
  | true=>some [.slice 1 es]
  | false=>none
 | _=>none
def concat09 (xs:List AVal):Option (List Data) :=
 match xs with
 | [.d (.slice 1 es)]=>match pcsOf es with
  | some l=>match Nat.ble l.length 1048576&&Nat.ble l.flatten.length 1048576 with
   | true=>forceLs l.flatten fun s=>some [.slice 1 s]
   | false=>none
  | none=>none
 | _=>none
def lib09 (f:FuncId) (xs:List AVal):Option (List Data) :=
 match Nat.beq f 156,Nat.beq f 176,Nat.beq f 175 with
 | true,_,_=>join09 xs
 | _,true,_=>clone09 xs
 | _,_,true=>concat09 xs
 | _,_,_=>none
def row09 (f:FuncId) (xs:List AVal):Option (Nat × Nat × List Data) :=
 match Nat.beq f 159,xs with
 | true,[.d (.slice 1 es)]=>match Nat.ble es.length 1048576 with
  | true=>some (3,1,es)
  | false=>none
 | _,_=>none
theorem row09_good (f:FuncId) (xs:List AVal) (t sz:Nat) (es:List Data) (h:row09 f xs=some (t,sz,es)):CallRow Tryz.prog f xs t sz es:=by
 unfold row09 at h
 split at h
 ·rename_i es' hf
  have:=Nat.eq_of_beq_eq_true hf
  subst this
  split at h
  ·rename_i hb
   cases h
   exact c159r _ (Nat.le_of_ble_eq_true hb)
  ·cases h
 ·cases h
theorem lib09_good (f:FuncId) (xs:List AVal) (rs:List Data) (h:lib09 f xs=some rs):CallDet Tryz.prog f xs rs:=by
 unfold lib09 at h
 split at h
 ·rename_i hf
  have:=Nat.eq_of_beq_eq_true hf
  subst this
  unfold join09 at h
  split at h
  ·split at h
   ·rename_i l hl
    split at h
    ·rename_i hb
     simp only [Bool.and_eq_true] at hb
     rw [forceLs_eq] at h
     cases h
     rw [strsOf_map hl]
     exact join_det l _ (Nat.le_of_ble_eq_true hb.1) (Nat.le_of_ble_eq_true hb.2)
    ·cases h
   ·cases h
  ·cases h
 ·rename_i hf _
  have:=Nat.eq_of_beq_eq_true hf
  subst this
  unfold clone09 at h
  split at h
  ·split at h
   ·rename_i hb
    cases h
    exact c176 _ (Nat.le_of_ble_eq_true hb)
   ·cases h
  ·cases h
 ·rename_i hf _ _
  have:=Nat.eq_of_beq_eq_true hf
  subst this
  unfold concat09 at h
  split at h
  ·split at h
   ·rename_i l hl
    split at h
    ·rename_i hb
     simp only [Bool.and_eq_true] at hb
     rw [forceLs_eq] at h
     cases h
     rw [pcsOf_map hl]
     exact c175 l (Nat.le_of_ble_eq_true hb.1) (Nat.le_of_ble_eq_true hb.2)
    ·cases h
   ·cases h
  ·cases h
 ·cases h
end Vc
