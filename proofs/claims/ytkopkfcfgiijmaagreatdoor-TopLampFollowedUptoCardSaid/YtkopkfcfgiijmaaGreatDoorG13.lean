import Derived.Test.YtkopkfcfgiijmaaGreatDoorG10
import Derived.Test.YtkopkfcfgiijmaaGreatDoorG12
import Derived.Test.YtkopkfcfgiijmaaGreatDoorG09
set_option linter.unusedSectionVars false
set_option linter.unusedVariables false
set_option linter.unusedSimpArgs false
set_option maxRecDepth 10000
set_option maxHeartbeats 4000000
namespace Vc
open Go Go.Proofs
theorem nbs_mem (m:Ms) (i x:Int):∀ k:Nat,x∈nbs m i k↔0≤x∧x < (k:Int)∧0 < betw m.ls i x
 | 0=>by
  show x∈[]↔_
  constructor
  ·intro h; cases h
  ·rintro ⟨h0,h1,_⟩; omega
 | k+1=>by
  have ih:=nbs_mem m i x k
  rw [nbs,List.mem_append,ih]
  by_cases h:0 < betw m.ls i k
  ·rw [decide_eq_true h]
   show _∨x∈[(k:Int)]↔_
   rw [List.mem_singleton]
   constructor
   ·rintro (⟨h0,h1,h2⟩ | rfl)
    ·exact ⟨h0,by omega,h2⟩
    ·exact ⟨by omega,by omega,h⟩
   ·rintro ⟨h0,h1,h2⟩
    by_cases e:x=k
    ·exact .inr e
    ·exact .inl ⟨h0,by omega,h2⟩
  ·rw [decide_eq_false h]
   show _∨x∈[]↔_
   constructor
   ·rintro (⟨h0,h1,h2⟩ | hh)
    ·exact ⟨h0,by omega,h2⟩
    ·cases hh
   ·rintro ⟨h0,h1,h2⟩
    by_cases e:x=k
    ·subst e; exact absurd h2 h
    ·exact .inl ⟨h0,by omega,h2⟩
theorem nbs_in (m:Ms) (a k:Int) (h:k∈m.nbs a):0≤k∧k < (m.ns.length:Int):=⟨((nbs_mem m a k _).1 h).1,((nbs_mem m a k _).1 h).2.1⟩
end Vc
