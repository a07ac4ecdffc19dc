import Derived.Test.YtmffgalmdnpcgaaGreatDoorG25
set_option linter.unusedSectionVars false
set_option linter.unusedVariables false
set_option linter.unusedSimpArgs false
set_option maxRecDepth 10000
set_option maxHeartbeats 4000000
namespace Vc
open Go Go.Proofs
def insU (x:Int):List Int→List Int
 | []=>[x]
 | y::r=>bif decide (x < y) then x::y::r else bif decide (x=y) then y::r else y::insU x r
theorem insU_mem (x z:Int):∀ s:List Int,z∈insU x s↔z=x∨z∈s
 | []=>by simp [insU]
 | y::r=>by
  rw [insU]
  by_cases h1:x < y
  ·rw [decide_eq_true h1]; simp
  ·rw [decide_eq_false h1]
   by_cases h2:x=y
   ·rw [decide_eq_true h2]; subst h2; simp
   ·rw [decide_eq_false h2]
    show z∈y::insU x r↔_
    rw [List.mem_cons,List.mem_cons,insU_mem x z r]
    constructor
    ·rintro (h | h | h)
     ·exact Or.inr (Or.inl h)
     ·exact Or.inl h
     ·exact Or.inr (Or.inr h)
    ·rintro (h | h | h)
     ·exact Or.inr (Or.inl h)
     ·exact Or.inl h
     ·exact Or.inr (Or.inr h)
theorem insU_asc (x:Int):∀ {s:List Int},s.Pairwise (· < ·)→(insU x s).Pairwise (· < ·)
 | [],_=>by simp [insU]
 | y::r,h=>by
  rw [insU]
  have hy:=List.pairwise_cons.1 h
  by_cases h1:x < y
  ·rw [decide_eq_true h1]
   refine List.pairwise_cons.2 ⟨fun z hz=>?_,h⟩
   rcases List.mem_cons.1 hz with h2 | h2
   ·omega
   ·have:=hy.1 z h2; omega
  ·rw [decide_eq_false h1]
   by_cases h2:x=y
   ·rw [decide_eq_true h2]; exact h
   ·rw [decide_eq_false h2]
    show (y::insU x r).Pairwise (· < ·)
    refine List.pairwise_cons.2 ⟨fun z hz=>?_,insU_asc x hy.2⟩
    rcases (insU_mem x z r).1 hz with h3 | h3
    ·omega
    ·exact hy.1 z h3
theorem asc_ext:∀ {a b:List Int},a.Pairwise (· < ·)→b.Pairwise (· < ·)→(∀ z,z∈a↔z∈b)→a=b
 | [],[],_,_,_=>rfl
 | [],y::r,_,_,h=>absurd ((h y).2 List.mem_cons_self) (by simp)
 | x::r,[],_,_,h=>absurd ((h x).1 List.mem_cons_self) (by simp)
 | x::r,y::s,ha,hb,h=>by
  have h1:=List.pairwise_cons.1 ha
  have h2:=List.pairwise_cons.1 hb
  have e:x=y:=by
   rcases List.mem_cons.1 ((h x).1 List.mem_cons_self) with e | e
   ·exact e
   ·rcases List.mem_cons.1 ((h y).2 List.mem_cons_self) with f | f
    ·exact f.symm
    ·have a1:=h1.1 y f
     have a2:=h2.1 x e
     omega
  subst e
  rw [asc_ext h1.2 h2.2 fun z=>?_]
  constructor
  ·intro hz
   rcases List.mem_cons.1 ((h z).1 (List.mem_cons_of_mem _ hz)) with e | e
   ·have:=h1.1 z hz; omega
   ·exact e
  ·intro hz
   rcases List.mem_cons.1 ((h z).2 (List.mem_cons_of_mem _ hz)) with e | e
   ·have:=h2.1 z hz; omega
   ·exact e
def atsT (t:Tf):List Int:=t.t.flatMap fun ty=>ty.map (·.1)
def ats (l:List Vr):List Int:=l.flatMap fun v=>atsT v.t
def insAll (s:List Int) (a:List Int):List Int:=a.foldl (fun s x=>insU x s) s
def secL (l:List Vr):List Int:=insAll [] (ats l)
theorem insAll_mem (z:Int):∀ (a s:List Int),z∈insAll s a↔z∈s∨z∈a
 | [],s=>by simp [insAll]
 | x::r,s=>by
  show z∈insAll (insU x s) r↔_
  rw [insAll_mem z r,insU_mem,List.mem_cons]
  constructor
  ·rintro ((h | h) | h)
   ·exact Or.inr (Or.inl h)
   ·exact Or.inl h
   ·exact Or.inr (Or.inr h)
  ·rintro (h | h | h)
   ·exact Or.inl (Or.inr h)
   ·exact Or.inl (Or.inl h)
   ·exact Or.inr h
theorem insAll_asc:∀ (a:List Int) {s:List Int},s.Pairwise (· < ·)→(insAll s a).Pairwise (· < ·)
 | [],_,h=>h
 | x::r,s,h=>by
  show (insAll (insU x s) r).Pairwise (· < ·)
  exact insAll_asc r (insU_asc x h)
theorem secL_asc (l:List Vr):(secL l).Pairwise (· < ·):=insAll_asc (ats l) List.Pairwise.nil
theorem secL_mem (l:List Vr) (z:Int):z∈secL l↔z∈ats l:=by
 unfold secL
 rw [insAll_mem]
 simp
theorem ats_rng {l:List Vr} (h:VsO l):∀ z∈ats l,0≤z∧z≤86399:=by
 intro z hz
 obtain ⟨v,hv,h1⟩:=List.mem_flatMap.1 hz
 obtain ⟨ty,ht,h2⟩:=List.mem_flatMap.1 h1
 obtain ⟨x,hx,rfl⟩:=List.mem_map.1 h2
 refine Exists.elim (List.getElem?_of_mem hv) fun i hi=>?_
 refine Exists.elim (List.getElem?_of_mem ht) fun j hj=>?_
 refine Exists.elim (List.getElem?_of_mem hx) fun k hk=>?_
 exact (((h.good i v hi).ty j ty hj).rng k x hk).1
theorem ats_zero {l:List Vr} (h:VsO l) (h0:0 < l.length):(0:Int)∈ats l:=by
 refine Exists.elim (get_lt l h0) fun v hv=>?_
 have hg:=h.good 0 v hv
 refine Exists.elim (get_lt v.t.t hg.nt.1) fun ty ht=>?_
 have ht2:=hg.ty 0 ty ht
 refine Exists.elim (get_lt ty ht2.len.1) fun x hx=>?_
 refine List.mem_flatMap.2 ⟨v,List.mem_of_getElem? hv,List.mem_flatMap.2 ⟨ty,List.mem_of_getElem? ht,List.mem_map.2 ⟨x,List.mem_of_getElem? hx,ht2.at0 x hx⟩⟩⟩
theorem sec_sorted {l:List Vr} (h:VsO l) (h0:0 < l.length):Go.Lib.compact (srtI (0::ats l))=secL l:=by
 refine asc_ext (cmp_sorted _ (srtI_sorted _)) (secL_asc l) fun z=>?_
 rw [cmp_mem,srtI_mem,secL_mem,List.mem_cons]
 constructor
 ·rintro (e | e)
  ·rw [e]; exact ats_zero h h0
  ·exact e
 ·exact Or.inr
def tkD (a b:Int) (S:List Int) (d:Int):List Int:=(S.map fun s=>d * 86400+s).filter fun t=>decide (a < t)&&decide (t < b)
def tks (a b:Int) (S:List Int):Nat→Int→List Int
 | 0,_=>[]
 | n+1,d=>tkD a b S d++tks a b S n (d+1)
def chB (l:List Vr) (t:Int):Bool:=!(atO l t==atO l (t - 1))
def tkN (a b:Int):Nat:=((b - 1) / 86400+1 - a / 86400).toNat
def chL (l:List Vr) (a b:Int):List Int:=(tks a b (secL l) (tkN a b) (a / 86400)).filter (chB l)
end Vc
