import Derived.Test.YtmjbifmndhianaaGreatDoorG20
import Derived.Test.YtmjbifmndhianaaGreatDoorG11
set_option linter.unusedSectionVars false
set_option linter.unusedVariables false
set_option linter.unusedSimpArgs false
set_option maxRecDepth 10000
namespace Vc
open Go Go.Proofs
def join08 (xs:List AVal):Option (List Data) :=
 match xs with
 | [.d (.slice 1 es),.d (.str sep)]=>match strsOf es with
  | some l=>match Nat.ble l.length 140737488355328&&Nat.ble (Lib.join l sep).length 140737488355328 with
   | true=>forceLs (Lib.join l sep) fun s=>some [.str s]
   | false=>none
  | none=>none
 | _=>none
def lib08 (f:FuncId) (xs:List AVal):Option (List Data) :=
 match Nat.beq f 151 with
 | true=>join08 xs
 | _=>none
def odsOf:List Data→Option (List Od)
 | []=>some []
 | .agg [.str o,.int .i64 t]::r=>match odsOf r with
  | some l=>some (⟨o,t⟩::l)
  | none=>none
 | _::_=>none
theorem odsOf_map:∀ {es:List Data} {l:List Od},odsOf es=some l→es=ods l
 | [],l,h=>by simp [odsOf] at h; subst h; rfl
 | d::r,l,h=>by
  unfold odsOf at h
  split at h
  ·rename_i e; cases e
  ·rename_i o t r' e
   cases e
   split at h
   ·rename_i l' h'
    cases h
    rw [odsOf_map h']; rfl
   ·cases h
  ·cases h
def row08 (f:FuncId) (xs:List AVal):Option (Nat × Nat × List Data) :=
 match Nat.beq f 128,xs with
 | true,[.d (.agg [.bool _,.bool _,.slice 2 es]),.d (.str off)]=>match odsOf es with
  | some l=>match Nat.ble l.length 1048576 with
   | true=>forceLs (ods (keepO off l)) fun es=>some (156,2,es)
   | false=>none
  | none=>none
 | _,_=>none
theorem row08_good (f:FuncId) (xs:List AVal) (t sz:Nat) (es:List Data) (h:row08 f xs=some (t,sz,es)):CallRow Tryz.prog f xs t sz es:=by
 unfold row08 at h
 split at h
 ·rename_i b1 b2 es' off hf
  have:=Nat.eq_of_beq_eq_true hf
  subst this
  split at h
  ·rename_i l hl
   split at h
   ·rename_i hb
    rw [forceLs_eq] at h
    cases h
    rw [odsOf_map hl]
    exact c128r b1 b2 l off (Nat.le_of_ble_eq_true hb)
   ·cases h
  ·cases h
 ·cases h
theorem lib08_good (f:FuncId) (xs:List AVal) (rs:List Data) (h:lib08 f xs=some rs):CallDet Tryz.prog f xs rs:=by
 unfold lib08 at h
 split at h
 ·rename_i hf
  have:=Nat.eq_of_beq_eq_true hf
  subst this
  unfold join08 at h
  split at h
  ·split at h
   ·rename_i l hl
    split at h
    ·rename_i hb
     simp only [Bool.and_eq_true] at hb
     rw [forceLs_eq] at h
     cases h
     rw [strsOf_map hl]
     exact join_det l _ (Nat.le_of_ble_eq_true hb.1) (Nat.le_of_ble_eq_true hb.2)
    ·cases h
   ·cases h
  ·cases h
 ·cases h
end Vc
