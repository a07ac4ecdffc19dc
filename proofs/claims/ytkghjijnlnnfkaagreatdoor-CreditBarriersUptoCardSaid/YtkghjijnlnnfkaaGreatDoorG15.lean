import Derived.Test.YtkghjijnlnnfkaaGreatDoorG11
set_option linter.unusedSectionVars false
set_option linter.unusedVariables false
set_option linter.unusedSimpArgs false
namespace Vc
open Go
structure Hr where
 d0:Bool
 d1:Bool
 d2:Bool
 d3:Bool
 d4:Bool
 d5:Bool
 d6:Bool
 f:Int
 t:Int
def Hr.day (h:Hr):Nat→Bool
 | 0=>h.d0
 | 1=>h.d1
 | 2=>h.d2
 | 3=>h.d3
 | 4=>h.d4
 | 5=>h.d5
 | 6=>h.d6
 | _=>false
def pr (h:Hr) (t:Int):Bool:=h.day (t / 86400 % 7).toNat&&(decide (h.f≤t % 86400)&&decide (t % 86400 < h.t))
def prL:List Hr→Int→Bool
 | [],_=>false
 | h::r,t=>bif pr h t then true else prL r t
def nx (t:Int):List Hr→Int→Int
 | [],a=>a
 | h::r,a=>nx t r (bif pr h t then max a (t / 86400 * 86400+h.t) else a)
def Hr.ok (h:Hr):Prop:=0≤h.f∧h.f < h.t∧h.t≤86400
def fr (l:List Hr) (t:Int):Nat→Int
 | 0=>-1
 | n+1=>bif prL l t then fr l (t+1) n else t
end Vc
