import Derived.Test.YtifgdpnmgeffbaaGreatDoorG40
import Derived.Test.YtifgdpnmgeffbaaGreatDoorG35
import Derived.Test.YtifgdpnmgeffbaaGreatDoorG41
set_option linter.unusedSectionVars false
set_option linter.unusedVariables false
set_option linter.unusedSimpArgs false
set_option maxRecDepth 10000
set_option maxHeartbeats 4000000
namespace Vc
open Go Go.Proofs
theorem qE_2 {l:List Ob} {G:List Gr} {of ri ob:Nm} (h:bookE l G=0):firstOf [nmE of,askE l ri ob]=qE l G of ri ob:=by unfold qE; rw [h,fo_z]
theorem ofE_2 {l:List Ob} {G:List Gr} {ri ob:Nm} {day:Int} (h:bookE l G=0):firstOf [askE l ri ob,within3 day 0 100000]=ofE l G ri ob day:=by unfold ofE; rw [h,fo_z]
theorem ends_gr:∀ {l:List Ob} {G:List Gr},grE l G=0→∀ g∈G,(0≤g.a∧g.a < g.b)∧g.b≤100000
 | _,[],_,g,hg=>by cases hg
 | l,g::r,h,g',hg'=>by
  rw [grE] at h
  cases hx:(grX l g != 0) with
  | true =>
   rw [hx] at h
   have h:grX l g=0:=h
   rw [h] at hx; cases hx
  | false =>
   rw [hx] at h
   rcases List.mem_cons.1 hg' with rfl | hg'
   ·have h0:grX l g'=0:=by simpa using hx
    have h1:=firstOf_zero h0 (spanE g'.a g'.b 100000) (by simp)
    unfold spanE at h1
    cases hs:(decide (g'.a < 0)||decide (g'.b≤g'.a)||decide ((100000:Int) < g'.b)) with
    | true=>rw [hs] at h1; exact absurd h1 (by show ¬ (14:Int)=0; decide)
    | false =>
     simp only [Bool.or_eq_false_iff,decide_eq_false_iff_not] at hs
     omega
   ·exact ends_gr h g' hg'
theorem book_gr {l:List Ob} {G:List Gr} (h:bookE l G=0):grE l G=0:=by
 by_cases h1:(16:Int) < (l.length:Int)
 ·rw [bk_1 h1] at h; exact absurd h (by decide)
 ·by_cases h2:obE l []=0
  ·by_cases h3:(32:Int) < (G.length:Int)
   ·rw [bk_3 h1 h2 h3] at h; exact absurd h (by decide)
   ·rw [bk_4 h1 h2 h3] at h; exact h
  ·rw [bk_2 h1 h2] at h; exact absurd h h2
theorem ends_rg {G:List Gr} (h:∀ g∈G,(0≤g.a∧g.a < g.b)∧g.b≤100000):∀ e∈endsF G [0,100001],0≤e∧e≤100001:=by
 intro e he
 rcases (endsF_mem e G _).1 he with h1 | ⟨g,hg,h1⟩
 ·have h1:e=0∨e=100001:=by simpa using h1
  omega
 ·have:=h g hg
  omega
theorem pushD_len (d n:Int) (out:List (Int × Int)):(pushD d n out).length≤out.length+1:=by
 unfold pushD
 split
 ·rw [List.length_append]; exact Nat.le_refl _
 ·rename_i x _
  cases (x.2==d) with
  | true=>show (out.set _ _).length≤_; rw [List.length_set]; exact Nat.le_succ _
  | false=>show (out++[_]).length≤_; rw [List.length_append]; exact Nat.le_refl _
theorem cutL_len (p:Int→Bool):∀ (D:List Int) (out:List (Int × Int)),(cutL p D out).length≤out.length+D.length
 | [],out=>Nat.le_refl _
 | [a],out=>Nat.le_succ _
 | a::b::r,out=>by
  rw [cutL]
  have h1:=cutL_len p (b::r) (bif p a then pushD a b out else out)
  have h2:=pushD_len a b out
  have e:(a::b::r).length=(b::r).length+1:=rfl
  cases hp:p a with
  | true=>rw [hp] at h1; have h1:(cutL p (b::r) (pushD a b out)).length≤(pushD a b out).length+(b::r).length:=h1; show (cutL p (b::r) (pushD a b out)).length≤_; omega
  | false=>rw [hp] at h1; have h1:(cutL p (b::r) out).length≤out.length+(b::r).length:=h1; show (cutL p (b::r) out).length≤_; omega
theorem daysP_len (l:List Ob) (G:List Gr) (of ri ob:Nm) (hG:G.length≤32):(daysP l G of ri ob).length≤66:=by
 unfold daysP
 refine Nat.le_trans (cutL_len _ _ _) ?_
 have h1:=cmp_len (srtI (endsF G [0,100001]))
 rw [srtI_len,endsF_len] at h1
 have h1:(Lib.compact (srtI (endsF G [0,100001]))).length≤2+2 * G.length:=h1
 show 0+_≤_
 omega
theorem offL_le (p:Nm→Bool):∀ {G:List Gr} {L:List Nm},(offL p G L).length≤L.length+G.length
 | [],L=>Nat.le_refl _
 | g::r,L=>by
  rw [offL]
  have a2:=offL_le p (G:=r) (L:=L)
  have b2:=offL_le p (G:=r) (L:=L++[g.to])
  rw [List.length_append] at b2
  simp only [List.length_singleton] at b2
  have e:(g::r).length=r.length+1:=rfl
  cases hc:(p g.to&&!L.contains g.to) with
  | false=>rw [e]; show (offL p r L).length≤_; omega
  | true=>rw [e]; show (offL p r (L++[g.to])).length≤_; omega
end Vc
