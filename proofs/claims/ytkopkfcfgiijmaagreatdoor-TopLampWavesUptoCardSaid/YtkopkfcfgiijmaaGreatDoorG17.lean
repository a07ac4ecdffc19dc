import Derived.Test.YtkopkfcfgiijmaaGreatDoorG12
import Derived.Test.YtkopkfcfgiijmaaGreatDoorG06
set_option linter.unusedSectionVars false
set_option linter.unusedVariables false
set_option linter.unusedSimpArgs false
set_option maxRecDepth 10000
set_option maxHeartbeats 4000000
namespace Vc
open Go Go.Proofs
def ir124:AFun:=⟨8,2,[.tmp 2],
 (.seq
 (.reg [] [⟨some 2,.mov (.cst (.nils 1)),none⟩])
 (.seq
 (.seq
 (.reg [] [⟨some 3,.mov (.tmp 0),none⟩,
 ⟨some 4,.isnil false (.tmp 3),none⟩])
 (.cond (.tmp 4)
 (.seq
 (.reg [] [⟨some 2,.mov (.cst (.nils 1)),none⟩])
 .ret)
 .skip))
 (.seq
 (.reg [0,1] [⟨some 5,.bsl 0 9 1 0 [] [],none⟩,
 ⟨some 6,.mov (.tmp 0),none⟩,
 ⟨some 7,.app 1 9 1 16 (.tmp 5) (.tmp 6),none⟩,
 ⟨some 2,.mov (.tmp 7),none⟩])
 .ret)))⟩
def ir126:AFun:=⟨8,2,[.tmp 2],
 (.seq
 (.reg [] [⟨some 2,.mov (.cst (.nils 3)),none⟩])
 (.seq
 (.seq
 (.reg [] [⟨some 3,.mov (.tmp 0),none⟩,
 ⟨some 4,.isnil false (.tmp 3),none⟩])
 (.cond (.tmp 4)
 (.seq
 (.reg [] [⟨some 2,.mov (.cst (.nils 3)),none⟩])
 .ret)
 .skip))
 (.seq
 (.reg [0,1] [⟨some 5,.bsl 0 106 3 0 [] [],none⟩,
 ⟨some 6,.mov (.tmp 0),none⟩,
 ⟨some 7,.app 1 106 3 24 (.tmp 5) (.tmp 6),none⟩,
 ⟨some 2,.mov (.tmp 7),none⟩])
 .ret)))⟩
def ir125:AFun:=⟨33,1,[.tmp 6],
 (.seq
 (.reg [] [⟨some 6,.mov (.cst (.nils 3)),none⟩])
 (.seq
 (.reg [] [⟨some 8,.mov (.tmp 0),none⟩,
 ⟨some 9,.mov (.tmp 1),none⟩,
 ⟨some 10,.mov (.tmp 2),none⟩,
 ⟨some 11,.mov (.tmp 0),none⟩,
 ⟨some 12,.len (.tmp 11),none⟩,
 ⟨some 13,.slm 3 (.tmp 8) (.tmp 9) (.tmp 10) (.tmp 12),none⟩])
 (.seq
 (.seq
 (.reg [] [⟨some 14,.mov (.tmp 1),none⟩,
 ⟨some 15,.mov (.tmp 2),none⟩,
 ⟨some 16,.cmp .eql (.tmp 14) (.tmp 15),none⟩])
 (.cond (.tmp 16)
 (.seq
 (.reg [] [⟨some 17,.mov (.tmp 0),none⟩,
 ⟨some 6,.mov (.tmp 17),none⟩])
 .ret)
 .skip))
 (.seq
 (.reg [] [⟨some 18,.mov (.tmp 0),none⟩,
 ⟨some 19,.len (.tmp 18),none⟩,
 ⟨some 7,.mov (.tmp 19),none⟩])
 (.seq
 (.regd [0] [⟨some 20,.mov (.tmp 0),none⟩,
 ⟨some 21,.mov (.tmp 1),none⟩,
 ⟨some 22,.slw 3 (.tmp 20) none (some (.tmp 21)),none⟩,
 ⟨some 23,.mov (.tmp 0),none⟩,
 ⟨some 24,.mov (.tmp 2),none⟩,
 ⟨some 25,.slw 3 (.tmp 23) (some (.tmp 24)) none,none⟩,
 ⟨some 26,.appw 3 (.tmp 22) (.tmp 25),none⟩,
 ⟨some 0,.mov (.tmp 26),none⟩] [(0,1),(0,3),(1,3),(2,3),(0,4),(1,4),(2,4),(3,4),(0,5),(1,5),(2,5)])
 (.seq
 (.reg [] [⟨some 27,.mov (.tmp 0),none⟩,
 ⟨some 28,.mov (.tmp 0),none⟩,
 ⟨some 29,.lenw (.tmp 28),none⟩,
 ⟨some 30,.mov (.tmp 7),none⟩,
 ⟨some 31,.slw 3 (.tmp 27) (some (.tmp 29)) (some (.tmp 30)),none⟩,
 ⟨none,.clrw 3 (.agg [(.int .i64 0),(.int .i64 0),(.int .i64 0)]) (.tmp 31),none⟩])
 (.seq
 (.reg [] [⟨some 32,.mov (.tmp 0),none⟩,
 ⟨some 6,.mov (.tmp 32),none⟩])
 .ret)))))))⟩
def Ms.zero:Ms:=⟨[],[]⟩
theorem c124 (l:List (List UInt8)) (hl:l.length≤1048576):CallDet Tryz.prog 61 [.d (.slice 1 (strs l))] [.slice 1 (strs l)]:=by
 have hsl:=strs_len l
 refine call_of_vc (x:=ir124) (by kernel_rfl) rfl ?_
 refine And.intro (fun t1=>?_) ?_
 rotate_left
 refine sd ?_
 refine sd ?_
 refine an ?_ ?_
 refine an ?_ ?_
 exact rfl
 refine an ?_ ?_
 exact rfl
 refine an ?_ ?_
 exact rfl
 refine an ?_ ?_
 (show ((0:Nat)+List.length (strs l)) * (16:Nat)≤(2:Nat) ^ (47:Nat); omega)
 (show (0:Nat)+List.length (strs l)≤(2:Nat) ^ (47:Nat); omega)
 refine sd ?_
 exact rfl
 exact congrArg (fun X=>resV [.slice 1 X]) t1.symm
def cut1 (es:List En) (i o:Int):List En:=match es[i.toNat]? with
 | some x=>bif x.ne==o then es.set i.toNat ⟨x.nu,x.di,-1⟩ else es
 | none=>es
def cut2 (es:List En) (l:Lk):List En:=cut1 (cut1 es l.a l.b) l.b l.a
def Ms.brok (m:Ms) (i:Int):Ms:=⟨m.ns,m.ls.eraseIdx i.toNat⟩
def Sts.brok (s:Sts) (m:Ms) (i:Int):Sts:=⟨s.co,s.nu,match m.ls[i.toNat]? with | some l=>cut2 s.es l | none=>s.es⟩
end Vc
