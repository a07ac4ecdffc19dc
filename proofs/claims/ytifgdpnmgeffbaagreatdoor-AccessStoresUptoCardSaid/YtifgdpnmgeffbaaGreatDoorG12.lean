import Derived.Test.YtifgdpnmgeffbaaGreatDoorG11
set_option linter.unusedSectionVars false
set_option linter.unusedVariables false
set_option linter.unusedSimpArgs false
set_option maxRecDepth 10000
set_option maxHeartbeats 4000000
namespace Vc
open Go Go.Proofs
theorem opS_t {s:Sto} {e:Int} {t:Sto} (h:opE s e≠0):opS s e t=sto0:=by unfold opS; rw [bne_iff_ne.2 h]; rfl
theorem opS_f {s:Sto} {e:Int} {t:Sto} (h:opE s e=0):opS s e t=t:=by unfold opS; rw [h]; rfl
theorem opE_z {s:Sto} {e:Int} (h:opE s e=0):chkS s=0∧e=0:=by
 unfold opE at h
 by_cases hc:chkS s=0
 ·rw [hc] at h; exact ⟨hc,h⟩
 ·rw [bne_iff_ne.2 hc] at h; exact absurd h hc
theorem nE_t {a:Int} (h:¬ a=0):(a != 0)=true:=bne_iff_ne.2 h
theorem nE_f {a:Int} (h:a=0):(a != 0)=false:=by rw [h]; rfl
def refS (e:Int) (t:Sto):Sto:=bif e != 0 then sto0 else t
theorem refS_t {e:Int} {t:Sto} (h:e≠0):refS e t=sto0:=by unfold refS; rw [bne_iff_ne.2 h]; rfl
theorem refS_f {e:Int} {t:Sto} (h:e=0):refS e t=t:=by unfold refS; rw [h]; rfl
def jr67:AFun:=⟨42,4,[.cell 8 7 true,.tmp 9],
 (.seq
 (.reg [0,1] [⟨some 4,.cbx 0 7 (.tmp 0),none⟩,
  ⟨some 8,.alloc 1 [(.d (.int .i64 0)),(.d (.int .i64 0)),(.d (.int .i64 0)),(.d (.int .i64 0)),(.nils 1),(.d (.bool false)),(.d (.bool false))],none⟩,
  ⟨some 9,.mov (.cst (.d (.int .i64 0))),none⟩])
 (.seq
  (.seq
  (.regd [2] [⟨some 11,.ld true 7 (.tmp 4),none⟩,
   ⟨some 12,.call 83 [(.tmp 11)],none⟩,
   ⟨some 13,.mov (.tmp 1),none⟩,
   ⟨some 14,.call 122 [(.tmp 13),(.cst (.d (.int .i64 1))),(.cst (.d (.int .i64 10000)))],none⟩,
   ⟨some 15,.mov (.tmp 2),none⟩,
   ⟨some 16,.call 122 [(.tmp 15),(.cst (.d (.int .i64 1))),(.cst (.d (.int .i64 16)))],none⟩,
   ⟨some 17,.mov (.tmp 3),none⟩,
   ⟨some 18,.call 122 [(.tmp 17),(.cst (.d (.int .i64 0))),(.cst (.d (.int .i64 9972)))],none⟩,
   ⟨some 19,.fad 6 (.tmp 4),none⟩,
   ⟨some 20,.ld false 1 (.tmp 19),none⟩,
   ⟨some 21,.call 103 [(.tmp 20),(.cst (.d (.int .i64 22)))],none⟩,
   ⟨some 22,.mov (.tmp 1),none⟩,
   ⟨some 23,.fad 0 (.tmp 4),none⟩,
   ⟨some 24,.ld false 1 (.tmp 23),none⟩,
   ⟨some 25,.cmp .leq (.tmp 22) (.tmp 24),none⟩,
   ⟨some 26,.call 103 [(.tmp 25),(.cst (.d (.int .i64 35)))],none⟩,
   ⟨some 27,.bsl 2 32 1 6 [(.int .i64 0),(.int .i64 0),(.int .i64 0),(.int .i64 0),(.int .i64 0),(.int .i64 0)] [(0,(.tmp 12)),(1,(.tmp 14)),(2,(.tmp 16)),(3,(.tmp 18)),(4,(.tmp 21)),(5,(.tmp 26))],none⟩,
   ⟨some 28,.call 99 [(.tmp 27)],none⟩,
   ⟨some 10,.mov (.tmp 28),none⟩] [(0,2),(1,2),(0,4),(1,4),(2,4),(3,4),(0,6),(1,6),(2,6),(3,6),(4,6),(5,6),(0,8),(1,8),(2,8),(3,8),(4,8),(5,8),(6,8),(7,8),(0,9),(1,9),(2,9),(3,9),(4,9),(5,9),(6,9),(7,9),(0,11),(1,11),(2,11),(3,11),(4,11),(5,11),(6,11),(7,11),(8,11),(9,11),(10,11),(0,12),(1,12),(2,12),(3,12),(4,12),(5,12),(6,12),(7,12),(8,12),(9,12),(10,12),(11,12),(0,13),(1,13),(2,13),(3,13),(4,13),(5,13),(6,13),(7,13),(8,13),(9,13),(10,13),(11,13),(0,14),(1,14),(2,14),(3,14),(4,14),(5,14),(6,14),(7,14),(8,14),(9,14),(10,14)])
  (.seq
   (.reg [] [⟨some 29,.mov (.tmp 10),none⟩,
    ⟨some 30,.cmp .neq (.tmp 29) (.cst (.d (.int .i64 0))),none⟩])
   (.cond (.tmp 30)
   (.seq
    (.reg [] [⟨some 31,.build [(.d (.int .i64 0)),(.d (.int .i64 0)),(.d (.int .i64 0)),(.d (.int .i64 0)),(.nils 1),(.d (.bool false)),(.d (.bool false))] [],none⟩,
     ⟨some 32,.mov (.tmp 10),none⟩,
     ⟨none,.st 7 (.tmp 8) (.tmp 31),none⟩,
     ⟨some 9,.mov (.tmp 32),none⟩])
    .ret)
   .skip)))
  (.seq
  (.regd [3] [⟨some 33,.fad 0 (.tmp 4),none⟩,
   ⟨some 34,.ld false 1 (.tmp 33),none⟩,
   ⟨some 35,.fad 1 (.tmp 4),none⟩,
   ⟨some 36,.ld false 1 (.tmp 35),none⟩,
   ⟨some 37,.mov (.tmp 1),none⟩,
   ⟨some 38,.mov (.tmp 3),none⟩,
   ⟨some 39,.mov (.tmp 2),none⟩,
   ⟨some 40,.msl 3 111 1 24 (.slice 1 []) (.tmp 39),none⟩,
   ⟨some 41,.build [(.d (.int .i64 0)),(.d (.int .i64 0)),(.d (.int .i64 0)),(.d (.int .i64 0)),(.nils 1),(.d (.bool false)),(.d (.bool false))] [(0,1,(.tmp 34)),(1,1,(.tmp 36)),(2,1,(.tmp 37)),(3,1,(.tmp 38)),(4,1,(.tmp 40))],none⟩,
   ⟨none,.st 7 (.tmp 8) (.tmp 41),none⟩,
   ⟨some 9,.mov (.cst (.d (.int .i64 0))),none⟩] [(0,2),(1,2),(0,3),(1,3),(0,4),(1,4),(2,4),(3,4),(0,5),(1,5),(2,5),(3,5),(4,5),(0,6),(1,6),(2,6),(3,6),(4,6),(5,6),(0,7),(1,7),(2,7),(3,7),(4,7),(5,7)])
  .ret)))⟩
def jr70:AFun:=⟨30,4,[.cell 2 7 true,.tmp 3],
 (.seq
 (.reg [0,1] [⟨some 1,.cbx 0 7 (.tmp 0),none⟩,
  ⟨some 2,.alloc 1 [(.d (.int .i64 0)),(.d (.int .i64 0)),(.d (.int .i64 0)),(.d (.int .i64 0)),(.nils 1),(.d (.bool false)),(.d (.bool false))],none⟩,
  ⟨some 3,.mov (.cst (.d (.int .i64 0))),none⟩])
 (.seq
  (.seq
  (.regd [2] [⟨some 6,.ld true 7 (.tmp 1),none⟩,
   ⟨some 7,.call 83 [(.tmp 6)],none⟩,
   ⟨some 8,.ld true 7 (.tmp 1),none⟩,
   ⟨some 9,.call 141 [(.tmp 8)],none⟩,
   ⟨some 10,.ld true 7 (.tmp 1),none⟩,
   ⟨some 11,.call 143 [(.tmp 10)],none⟩,
   ⟨some 12,.call 103 [(.tmp 11),(.cst (.d (.int .i64 16)))],none⟩,
   ⟨some 13,.fad 4 (.tmp 1),none⟩,
   ⟨some 14,.ld false 1 (.tmp 13),none⟩,
   ⟨some 15,.call 140 [(.tmp 14)],none⟩,
   ⟨some 16,.fad 3 (.tmp 1),none⟩,
   ⟨some 17,.ld false 1 (.tmp 16),none⟩,
   ⟨some 18,.cmp .neq (.tmp 15) (.tmp 17),none⟩,
   ⟨some 19,.call 103 [(.tmp 18),(.cst (.d (.int .i64 27)))],none⟩,
   ⟨some 20,.bsl 2 32 1 4 [(.int .i64 0),(.int .i64 0),(.int .i64 0),(.int .i64 0)] [(0,(.tmp 7)),(1,(.tmp 9)),(2,(.tmp 12)),(3,(.tmp 19))],none⟩,
   ⟨some 21,.call 99 [(.tmp 20)],none⟩,
   ⟨some 4,.mov (.tmp 21),none⟩] [(0,2),(1,2),(0,4),(1,4),(2,4),(3,4),(0,7),(1,7),(2,7),(3,7),(4,7),(5,7),(6,7),(0,8),(1,8),(2,8),(3,8),(4,8),(5,8),(6,8),(0,10),(1,10),(2,10),(3,10),(4,10),(5,10),(6,10),(7,10),(8,10),(9,10),(0,11),(1,11),(2,11),(3,11),(4,11),(5,11),(6,11),(7,11),(8,11),(9,11)])
  (.seq
   (.reg [] [⟨some 22,.mov (.tmp 4),none⟩,
    ⟨some 23,.cmp .neq (.tmp 22) (.cst (.d (.int .i64 0))),none⟩])
   (.cond (.tmp 23)
   (.seq
    (.reg [] [⟨some 24,.build [(.d (.int .i64 0)),(.d (.int .i64 0)),(.d (.int .i64 0)),(.d (.int .i64 0)),(.nils 1),(.d (.bool false)),(.d (.bool false))] [],none⟩,
     ⟨some 25,.mov (.tmp 4),none⟩,
     ⟨none,.st 7 (.tmp 2) (.tmp 24),none⟩,
     ⟨some 3,.mov (.tmp 25),none⟩])
    .ret)
   .skip)))
  (.seq
  (.reg [3] [⟨some 26,.ld true 7 (.tmp 1),none⟩,
   ⟨some 27,.call 142 [(.tmp 26)],none⟩,
   ⟨some 5,.alloc 3 [(.d (.int .i64 0)),(.d (.int .i64 0)),(.d (.int .i64 0)),(.d (.int .i64 0)),(.nils 1),(.d (.bool false)),(.d (.bool false))],none⟩,
   ⟨none,.st 7 (.tmp 5) (.tmp 27),none⟩])
  (.seq
   (.reg [] [⟨some 28,.fad 5 (.tmp 5),none⟩,
    ⟨none,.st 1 (.tmp 28) (.cst (.d (.bool true))),none⟩])
   (.seq
   (.reg [] [⟨some 29,.ld true 7 (.tmp 5),none⟩,
    ⟨none,.st 7 (.tmp 2) (.tmp 29),none⟩,
    ⟨some 3,.mov (.cst (.d (.int .i64 0))),none⟩])
   .ret)))))⟩
def jr71:AFun:=⟨32,4,[.cell 2 7 true,.tmp 3],
 (.seq
 (.reg [0,1] [⟨some 1,.cbx 0 7 (.tmp 0),none⟩,
  ⟨some 2,.alloc 1 [(.d (.int .i64 0)),(.d (.int .i64 0)),(.d (.int .i64 0)),(.d (.int .i64 0)),(.nils 1),(.d (.bool false)),(.d (.bool false))],none⟩,
  ⟨some 3,.mov (.cst (.d (.int .i64 0))),none⟩])
 (.seq
  (.seq
  (.regd [2] [⟨some 6,.ld true 7 (.tmp 1),none⟩,
   ⟨some 7,.call 83 [(.tmp 6)],none⟩,
   ⟨some 8,.fad 5 (.tmp 1),none⟩,
   ⟨some 9,.ld false 1 (.tmp 8),none⟩,
   ⟨some 10,.not (.tmp 9),none⟩,
   ⟨some 11,.mov (.tmp 10),none⟩,
   ⟨some 12,.fad 6 (.tmp 1),some (11,false)⟩,
   ⟨some 13,.ld false 1 (.tmp 12),some (11,false)⟩,
   ⟨some 14,.pick (.tmp 11) (.cst (.d (.bool true))) (.tmp 13),none⟩,
   ⟨some 15,.call 103 [(.tmp 14),(.cst (.d (.int .i64 22)))],none⟩,
   ⟨some 16,.bsl 2 32 1 2 [(.int .i64 0),(.int .i64 0)] [(0,(.tmp 7)),(1,(.tmp 15))],none⟩,
   ⟨some 17,.call 99 [(.tmp 16)],none⟩,
   ⟨some 4,.mov (.tmp 17),none⟩] [(0,2),(1,2),(0,3),(1,3),(0,4),(1,4)])
  (.seq
   (.reg [] [⟨some 18,.mov (.tmp 4),none⟩,
    ⟨some 19,.cmp .neq (.tmp 18) (.cst (.d (.int .i64 0))),none⟩])
   (.cond (.tmp 19)
   (.seq
    (.reg [] [⟨some 20,.build [(.d (.int .i64 0)),(.d (.int .i64 0)),(.d (.int .i64 0)),(.d (.int .i64 0)),(.nils 1),(.d (.bool false)),(.d (.bool false))] [],none⟩,
     ⟨some 21,.mov (.tmp 4),none⟩,
     ⟨none,.st 7 (.tmp 2) (.tmp 20),none⟩,
     ⟨some 3,.mov (.tmp 21),none⟩])
    .ret)
   .skip)))
  (.seq
  (.reg [3] [⟨some 22,.ld true 7 (.tmp 1),none⟩,
   ⟨some 23,.call 142 [(.tmp 22)],none⟩,
   ⟨some 5,.alloc 3 [(.d (.int .i64 0)),(.d (.int .i64 0)),(.d (.int .i64 0)),(.d (.int .i64 0)),(.nils 1),(.d (.bool false)),(.d (.bool false))],none⟩,
   ⟨none,.st 7 (.tmp 5) (.tmp 23),none⟩])
  (.seq
   (.regd [] [⟨some 24,.fad 0 (.tmp 1),none⟩,
    ⟨some 25,.ld false 1 (.tmp 24),none⟩,
    ⟨some 26,.fad 2 (.tmp 1),none⟩,
    ⟨some 27,.ld false 1 (.tmp 26),none⟩,
    ⟨some 28,.fad 1 (.tmp 5),none⟩,
    ⟨none,.st 1 (.tmp 28) (.tmp 25),none⟩,
    ⟨some 29,.fad 0 (.tmp 5),none⟩,
    ⟨none,.st 1 (.tmp 29) (.tmp 27),none⟩,
    ⟨some 30,.fad 6 (.tmp 5),none⟩,
    ⟨none,.st 1 (.tmp 30) (.cst (.d (.bool true))),none⟩] [(0,2),(1,2),(0,3),(1,3),(2,4),(3,4),(2,5),(3,5)])
   (.seq
   (.reg [] [⟨some 31,.ld true 7 (.tmp 5),none⟩,
    ⟨none,.st 7 (.tmp 2) (.tmp 31),none⟩,
    ⟨some 3,.mov (.cst (.d (.int .i64 0))),none⟩])
   .ret)))))⟩
def jr144:AFun:=⟨23,3,[.cell 4 7 true,.tmp 5],
 (.seq
 (.reg [0,1] [⟨some 2,.cbx 0 7 (.tmp 0),none⟩,
  ⟨some 4,.alloc 1 [(.d (.int .i64 0)),(.d (.int .i64 0)),(.d (.int .i64 0)),(.d (.int .i64 0)),(.nils 1),(.d (.bool false)),(.d (.bool false))],none⟩,
  ⟨some 5,.mov (.cst (.d (.int .i64 0))),none⟩])
 (.seq
  (.seq
  (.regd [2] [⟨some 7,.ld true 7 (.tmp 2),none⟩,
   ⟨some 8,.call 83 [(.tmp 7)],none⟩,
   ⟨some 9,.fad 6 (.tmp 2),none⟩,
   ⟨some 10,.ld false 1 (.tmp 9),none⟩,
   ⟨some 11,.not (.tmp 10),none⟩,
   ⟨some 12,.call 103 [(.tmp 11),(.cst (.d (.int .i64 22)))],none⟩,
   ⟨some 13,.bsl 2 32 1 2 [(.int .i64 0),(.int .i64 0)] [(0,(.tmp 8)),(1,(.tmp 12))],none⟩,
   ⟨some 14,.call 99 [(.tmp 13)],none⟩,
   ⟨some 6,.mov (.tmp 14),none⟩] [(0,2),(1,2),(0,3),(1,3),(0,4),(1,4)])
  (.seq
   (.reg [] [⟨some 15,.mov (.tmp 6),none⟩,
    ⟨some 16,.cmp .neq (.tmp 15) (.cst (.d (.int .i64 0))),none⟩])
   (.cond (.tmp 16)
   (.seq
    (.reg [] [⟨some 17,.build [(.d (.int .i64 0)),(.d (.int .i64 0)),(.d (.int .i64 0)),(.d (.int .i64 0)),(.nils 1),(.d (.bool false)),(.d (.bool false))] [],none⟩,
     ⟨some 18,.mov (.tmp 6),none⟩,
     ⟨none,.st 7 (.tmp 4) (.tmp 17),none⟩,
     ⟨some 5,.mov (.tmp 18),none⟩])
    .ret)
   .skip)))
  (.seq
  (.reg [] [⟨some 19,.mov (.tmp 1),none⟩,
   ⟨some 20,.fad 1 (.tmp 2),none⟩,
   ⟨some 21,.ld false 1 (.tmp 20),none⟩,
   ⟨some 22,.build [(.d (.int .i64 0)),(.d (.int .i64 0)),(.d (.int .i64 0)),(.d (.int .i64 0)),(.nils 1),(.d (.bool false)),(.d (.bool false))] [(0,1,(.tmp 19)),(1,1,(.tmp 21))],none⟩,
   ⟨none,.st 7 (.tmp 4) (.tmp 22),none⟩,
   ⟨some 5,.mov (.cst (.d (.int .i64 0))),none⟩])
  .ret)))⟩
def jr72:AFun:=⟨10,2,[.cell 2 7 true,.tmp 3],
 (.seq
 (.reg [0,1] [⟨some 1,.cbx 0 7 (.tmp 0),none⟩,
  ⟨some 2,.alloc 1 [(.d (.int .i64 0)),(.d (.int .i64 0)),(.d (.int .i64 0)),(.d (.int .i64 0)),(.nils 1),(.d (.bool false)),(.d (.bool false))],none⟩,
  ⟨some 3,.mov (.cst (.d (.int .i64 0))),none⟩])
 (.seq
  (.reg [] [⟨some 4,.ld true 7 (.tmp 1),none⟩,
   ⟨some 5,.fad 0 (.tmp 1),none⟩,
   ⟨some 6,.ld false 1 (.tmp 5),none⟩,
   ⟨some 7,.call 144 [(.tmp 4),(.tmp 6)],none⟩,
   ⟨some 8,.ext 0 (.tmp 7),none⟩,
   ⟨some 9,.ext 1 (.tmp 7),none⟩,
   ⟨none,.st 7 (.tmp 2) (.tmp 8),none⟩,
   ⟨some 3,.mov (.tmp 9),none⟩])
  .ret))⟩
def jr73:AFun:=⟨10,2,[.cell 2 7 true,.tmp 3],
 (.seq
 (.reg [0,1] [⟨some 1,.cbx 0 7 (.tmp 0),none⟩,
  ⟨some 2,.alloc 1 [(.d (.int .i64 0)),(.d (.int .i64 0)),(.d (.int .i64 0)),(.d (.int .i64 0)),(.nils 1),(.d (.bool false)),(.d (.bool false))],none⟩,
  ⟨some 3,.mov (.cst (.d (.int .i64 0))),none⟩])
 (.seq
  (.reg [] [⟨some 4,.ld true 7 (.tmp 1),none⟩,
   ⟨some 5,.fad 1 (.tmp 1),none⟩,
   ⟨some 6,.ld false 1 (.tmp 5),none⟩,
   ⟨some 7,.call 144 [(.tmp 4),(.tmp 6)],none⟩,
   ⟨some 8,.ext 0 (.tmp 7),none⟩,
   ⟨some 9,.ext 1 (.tmp 7),none⟩,
   ⟨none,.st 7 (.tmp 2) (.tmp 8),none⟩,
   ⟨some 3,.mov (.tmp 9),none⟩])
  .ret))⟩
def jr77:AFun:=⟨51,6,[.cell 8 7 true,.tmp 9],
 (.seq
 (.reg [0,1] [⟨some 4,.cbx 0 7 (.tmp 0),none⟩,
  ⟨some 8,.alloc 1 [(.d (.int .i64 0)),(.d (.int .i64 0)),(.d (.int .i64 0)),(.d (.int .i64 0)),(.nils 1),(.d (.bool false)),(.d (.bool false))],none⟩,
  ⟨some 9,.mov (.cst (.d (.int .i64 0))),none⟩])
 (.seq
  (.seq
  (.regd [2] [⟨some 13,.mov (.tmp 1),none⟩,
   ⟨some 14,.call 112 [(.tmp 13),(.cst (.d (.int .i64 1))),(.cst (.d (.int .i64 10000)))],none⟩,
   ⟨some 15,.mov (.tmp 2),none⟩,
   ⟨some 16,.call 112 [(.tmp 15),(.cst (.d (.int .i64 1))),(.cst (.d (.int .i64 16)))],none⟩,
   ⟨some 17,.mov (.tmp 3),none⟩,
   ⟨some 18,.call 112 [(.tmp 17),(.cst (.d (.int .i64 0))),(.cst (.d (.int .i64 9972)))],none⟩,
   ⟨some 19,.fad 6 (.tmp 4),none⟩,
   ⟨some 20,.ld false 1 (.tmp 19),none⟩,
   ⟨some 21,.call 22 [(.tmp 20),(.cst (.d (.int .i64 22)))],none⟩,
   ⟨some 22,.mov (.tmp 1),none⟩,
   ⟨some 23,.fad 0 (.tmp 4),none⟩,
   ⟨some 24,.ld false 1 (.tmp 23),none⟩,
   ⟨some 25,.cmp .leq (.tmp 22) (.tmp 24),none⟩,
   ⟨some 26,.call 22 [(.tmp 25),(.cst (.d (.int .i64 35)))],none⟩,
   ⟨some 27,.bsl 2 3 1 5 [(.int .i64 0),(.int .i64 0),(.int .i64 0),(.int .i64 0),(.int .i64 0)] [(0,(.tmp 14)),(1,(.tmp 16)),(2,(.tmp 18)),(3,(.tmp 21)),(4,(.tmp 26))],none⟩,
   ⟨some 28,.call 110 [(.tmp 27)],none⟩,
   ⟨some 10,.mov (.tmp 28),none⟩] [(0,2),(1,2),(0,4),(1,4),(2,4),(3,4),(0,6),(1,6),(2,6),(3,6),(4,6),(5,6),(0,7),(1,7),(2,7),(3,7),(4,7),(5,7),(0,9),(1,9),(2,9),(3,9),(4,9),(5,9),(6,9),(7,9),(8,9),(0,10),(1,10),(2,10),(3,10),(4,10),(5,10),(6,10),(7,10),(8,10),(9,10),(0,11),(1,11),(2,11),(3,11),(4,11),(5,11),(6,11),(7,11),(8,11),(9,11),(0,12),(1,12),(2,12),(3,12),(4,12),(5,12),(6,12),(7,12),(8,12)])
  (.seq
   (.reg [] [⟨some 29,.mov (.tmp 10),none⟩,
    ⟨some 30,.cmp .neq (.tmp 29) (.cst (.d (.int .i64 0))),none⟩])
   (.cond (.tmp 30)
   (.seq
    (.reg [] [⟨some 31,.build [(.d (.int .i64 0)),(.d (.int .i64 0)),(.d (.int .i64 0)),(.d (.int .i64 0)),(.nils 1),(.d (.bool false)),(.d (.bool false))] [],none⟩,
     ⟨some 32,.mov (.tmp 10),none⟩,
     ⟨none,.st 7 (.tmp 8) (.tmp 31),none⟩,
     ⟨some 9,.mov (.tmp 32),none⟩])
    .ret)
   .skip)))
  (.seq
  (.reg [3] [⟨some 33,.fad 0 (.tmp 4),none⟩,
   ⟨some 34,.ld false 1 (.tmp 33),none⟩,
   ⟨some 35,.fad 1 (.tmp 4),none⟩,
   ⟨some 36,.ld false 1 (.tmp 35),none⟩,
   ⟨some 37,.mov (.tmp 1),none⟩,
   ⟨some 38,.mov (.tmp 3),none⟩,
   ⟨some 39,.build [(.d (.int .i64 0)),(.d (.int .i64 0)),(.d (.int .i64 0)),(.d (.int .i64 0)),(.nils 1),(.d (.bool false)),(.d (.bool false))] [(0,1,(.tmp 34)),(1,1,(.tmp 36)),(2,1,(.tmp 37)),(3,1,(.tmp 38))],none⟩,
   ⟨some 11,.alloc 3 [(.d (.int .i64 0)),(.d (.int .i64 0)),(.d (.int .i64 0)),(.d (.int .i64 0)),(.nils 1),(.d (.bool false)),(.d (.bool false))],none⟩,
   ⟨none,.st 7 (.tmp 11) (.tmp 39),none⟩])
  (.seq
   (.seq
   (.reg [] [⟨some 12,.mov (.cst (.d (.int .i64 0))),none⟩])
   (.post [8,11] [0,1,2,3,4,5]
    (.block 0
    (.keep [2,8,11,12] [0,1,2,3]
     (.loop
     (.post [2,8,11,12] [4,5]
      (.seq
      (.seq
       (.reg [] [⟨some 40,.mov (.tmp 12),none⟩,
        ⟨some 41,.mov (.tmp 2),none⟩,
        ⟨some 42,.cmp .lss (.tmp 40) (.tmp 41),none⟩])
       (.cond (.tmp 42)
       .skip
       (.exit 0)))
      (.seq
       (.block 1
       (.reg [4,5] [⟨some 45,.fad 4 (.tmp 11),none⟩,
        ⟨some 46,.ld false 1 (.tmp 45),none⟩,
        ⟨some 47,.bsl 4 111 1 1 [(.slice 1 [])] [(0,(.cst (.nils 1)))],none⟩,
        ⟨some 48,.app 5 111 1 24 (.tmp 46) (.tmp 47),none⟩,
        ⟨some 49,.fad 4 (.tmp 11),none⟩,
        ⟨none,.st 1 (.tmp 49) (.tmp 48),none⟩]))
       (.reg [] [⟨some 43,.mov (.tmp 12),none⟩,
        ⟨some 44,.arith .add .i64 (.tmp 43) (.cst (.d (.int .i64 1))),none⟩,
        ⟨some 12,.mov (.tmp 44),none⟩])))))))))
   (.seq
   (.reg [] [⟨some 50,.ld true 7 (.tmp 11),none⟩,
    ⟨none,.st 7 (.tmp 8) (.tmp 50),none⟩,
    ⟨some 9,.mov (.cst (.d (.int .i64 0))),none⟩])
   .ret)))))⟩
def jr79:AFun:=⟨33,3,[.cell 2 7 true,.tmp 3],
 (.seq
 (.reg [0,1] [⟨some 1,.box 0 7 (.tmp 0),none⟩,
  ⟨some 2,.alloc 1 [(.d (.int .i64 0)),(.d (.int .i64 0)),(.d (.int .i64 0)),(.d (.int .i64 0)),(.nils 1),(.d (.bool false)),(.d (.bool false))],none⟩,
  ⟨some 3,.mov (.cst (.d (.int .i64 0))),none⟩])
 (.seq
  (.seq
  (.regd [2] [⟨some 5,.fad 2 (.tmp 1),none⟩,
   ⟨some 6,.ld false 1 (.tmp 5),none⟩,
   ⟨some 7,.cmp .eql (.tmp 6) (.cst (.d (.int .i64 0))),none⟩,
   ⟨some 8,.mov (.tmp 7),none⟩,
   ⟨some 9,.fad 6 (.tmp 1),some (8,false)⟩,
   ⟨some 10,.ld false 1 (.tmp 9),some (8,false)⟩,
   ⟨some 11,.pick (.tmp 8) (.cst (.d (.bool true))) (.tmp 10),none⟩,
   ⟨some 12,.call 22 [(.tmp 11),(.cst (.d (.int .i64 22)))],none⟩,
   ⟨some 13,.fad 4 (.tmp 1),none⟩,
   ⟨some 14,.ld false 1 (.tmp 13),none⟩,
   ⟨some 15,.call 146 [(.tmp 14)],none⟩,
   ⟨some 16,.not (.tmp 15),none⟩,
   ⟨some 17,.call 22 [(.tmp 16),(.cst (.d (.int .i64 16)))],none⟩,
   ⟨some 18,.fad 4 (.tmp 1),none⟩,
   ⟨some 19,.ld false 1 (.tmp 18),none⟩,
   ⟨some 20,.call 76 [(.tmp 19)],none⟩,
   ⟨some 21,.fad 3 (.tmp 1),none⟩,
   ⟨some 22,.ld false 1 (.tmp 21),none⟩,
   ⟨some 23,.cmp .neq (.tmp 20) (.tmp 22),none⟩,
   ⟨some 24,.call 22 [(.tmp 23),(.cst (.d (.int .i64 27)))],none⟩,
   ⟨some 25,.bsl 2 3 1 3 [(.int .i64 0),(.int .i64 0),(.int .i64 0)] [(0,(.tmp 12)),(1,(.tmp 17)),(2,(.tmp 24))],none⟩,
   ⟨some 26,.call 110 [(.tmp 25)],none⟩,
   ⟨some 4,.mov (.tmp 26),none⟩] [(0,8),(1,8),(2,8),(3,8),(4,8),(5,8),(6,8),(7,8),(0,9),(1,9),(2,9),(3,9),(4,9),(5,9),(6,9),(7,9),(0,13),(1,13),(2,13),(3,13),(4,13),(5,13),(6,13),(7,13),(8,13),(9,13),(10,13),(11,13),(12,13),(0,14),(1,14),(2,14),(3,14),(4,14),(5,14),(6,14),(7,14),(8,14),(9,14),(10,14),(11,14),(12,14),(0,16),(1,16),(2,16),(3,16),(4,16),(5,16),(6,16),(7,16),(8,16),(9,16),(10,16),(11,16),(12,16),(13,16),(14,16),(15,16),(0,17),(1,17),(2,17),(3,17),(4,17),(5,17),(6,17),(7,17),(8,17),(9,17),(10,17),(11,17),(12,17),(13,17),(14,17),(15,17)])
  (.seq
   (.reg [] [⟨some 27,.mov (.tmp 4),none⟩,
    ⟨some 28,.cmp .neq (.tmp 27) (.cst (.d (.int .i64 0))),none⟩])
   (.cond (.tmp 28)
   (.seq
    (.reg [] [⟨some 29,.build [(.d (.int .i64 0)),(.d (.int .i64 0)),(.d (.int .i64 0)),(.d (.int .i64 0)),(.nils 1),(.d (.bool false)),(.d (.bool false))] [],none⟩,
     ⟨some 30,.mov (.tmp 4),none⟩,
     ⟨none,.st 7 (.tmp 2) (.tmp 29),none⟩,
     ⟨some 3,.mov (.tmp 30),none⟩])
    .ret)
   .skip)))
  (.seq
  (.reg [] [⟨some 31,.fad 5 (.tmp 1),none⟩,
   ⟨none,.st 1 (.tmp 31) (.cst (.d (.bool true))),none⟩])
  (.seq
   (.reg [] [⟨some 32,.ld true 7 (.tmp 1),none⟩,
    ⟨none,.st 7 (.tmp 2) (.tmp 32),none⟩,
    ⟨some 3,.mov (.cst (.d (.int .i64 0))),none⟩])
   .ret))))⟩
def jr80:AFun:=⟨23,2,[.cell 2 7 true,.tmp 3],
 (.seq
 (.reg [0,1] [⟨some 1,.cbx 0 7 (.tmp 0),none⟩,
  ⟨some 2,.alloc 1 [(.d (.int .i64 0)),(.d (.int .i64 0)),(.d (.int .i64 0)),(.d (.int .i64 0)),(.nils 1),(.d (.bool false)),(.d (.bool false))],none⟩,
  ⟨some 3,.mov (.cst (.d (.int .i64 0))),none⟩])
 (.seq
  (.seq
  (.reg [] [⟨some 4,.fad 5 (.tmp 1),none⟩,
   ⟨some 5,.ld false 1 (.tmp 4),none⟩,
   ⟨some 6,.not (.tmp 5),none⟩,
   ⟨some 7,.mov (.tmp 6),none⟩,
   ⟨some 8,.fad 6 (.tmp 1),some (7,false)⟩,
   ⟨some 9,.ld false 1 (.tmp 8),some (7,false)⟩,
   ⟨some 10,.pick (.tmp 7) (.cst (.d (.bool true))) (.tmp 9),none⟩])
  (.cond (.tmp 10)
   (.seq
   (.reg [] [⟨some 11,.build [(.d (.int .i64 0)),(.d (.int .i64 0)),(.d (.int .i64 0)),(.d (.int .i64 0)),(.nils 1),(.d (.bool false)),(.d (.bool false))] [],none⟩,
    ⟨none,.st 7 (.tmp 2) (.tmp 11),none⟩,
    ⟨some 3,.mov (.cst (.d (.int .i64 22))),none⟩])
   .ret)
   .skip))
  (.seq
  (.reg [] [⟨some 12,.fad 2 (.tmp 1),none⟩,
   ⟨some 13,.ld false 1 (.tmp 12),none⟩,
   ⟨some 14,.fad 0 (.tmp 1),none⟩,
   ⟨some 15,.ld false 1 (.tmp 14),none⟩,
   ⟨some 16,.fad 2 (.tmp 1),none⟩,
   ⟨some 17,.ld false 1 (.tmp 16),none⟩,
   ⟨some 18,.fad 3 (.tmp 1),none⟩,
   ⟨some 19,.ld false 1 (.tmp 18),none⟩,
   ⟨some 20,.fad 4 (.tmp 1),none⟩,
   ⟨some 21,.ld false 1 (.tmp 20),none⟩,
   ⟨some 22,.build [(.d (.int .i64 0)),(.d (.int .i64 0)),(.d (.int .i64 0)),(.d (.int .i64 0)),(.nils 1),(.d (.bool false)),(.d (.bool false))] [(0,1,(.tmp 13)),(1,1,(.tmp 15)),(2,1,(.tmp 17)),(3,1,(.tmp 19)),(4,1,(.tmp 21)),(5,1,(.cst (.d (.bool true)))),(6,1,(.cst (.d (.bool true))))],none⟩,
   ⟨none,.st 7 (.tmp 2) (.tmp 22),none⟩,
   ⟨some 3,.mov (.cst (.d (.int .i64 0))),none⟩])
  .ret)))⟩
def jr81:AFun:=⟨13,2,[.cell 2 7 true,.tmp 3],
 (.seq
 (.reg [0,1] [⟨some 1,.cbx 0 7 (.tmp 0),none⟩,
  ⟨some 2,.alloc 1 [(.d (.int .i64 0)),(.d (.int .i64 0)),(.d (.int .i64 0)),(.d (.int .i64 0)),(.nils 1),(.d (.bool false)),(.d (.bool false))],none⟩,
  ⟨some 3,.mov (.cst (.d (.int .i64 0))),none⟩])
 (.seq
  (.seq
  (.reg [] [⟨some 4,.fad 6 (.tmp 1),none⟩,
   ⟨some 5,.ld false 1 (.tmp 4),none⟩,
   ⟨some 6,.not (.tmp 5),none⟩])
  (.cond (.tmp 6)
   (.seq
   (.reg [] [⟨some 7,.build [(.d (.int .i64 0)),(.d (.int .i64 0)),(.d (.int .i64 0)),(.d (.int .i64 0)),(.nils 1),(.d (.bool false)),(.d (.bool false))] [],none⟩,
    ⟨none,.st 7 (.tmp 2) (.tmp 7),none⟩,
    ⟨some 3,.mov (.cst (.d (.int .i64 22))),none⟩])
   .ret)
   .skip))
  (.seq
  (.reg [] [⟨some 8,.fad 0 (.tmp 1),none⟩,
   ⟨some 9,.ld false 1 (.tmp 8),none⟩,
   ⟨some 10,.fad 1 (.tmp 1),none⟩,
   ⟨some 11,.ld false 1 (.tmp 10),none⟩,
   ⟨some 12,.build [(.d (.int .i64 0)),(.d (.int .i64 0)),(.d (.int .i64 0)),(.d (.int .i64 0)),(.nils 1),(.d (.bool false)),(.d (.bool false))] [(0,1,(.tmp 9)),(1,1,(.tmp 11))],none⟩,
   ⟨none,.st 7 (.tmp 2) (.tmp 12),none⟩,
   ⟨some 3,.mov (.cst (.d (.int .i64 0))),none⟩])
  .ret)))⟩
def jr82:AFun:=⟨13,2,[.cell 2 7 true,.tmp 3],
 (.seq
 (.reg [0,1] [⟨some 1,.cbx 0 7 (.tmp 0),none⟩,
  ⟨some 2,.alloc 1 [(.d (.int .i64 0)),(.d (.int .i64 0)),(.d (.int .i64 0)),(.d (.int .i64 0)),(.nils 1),(.d (.bool false)),(.d (.bool false))],none⟩,
  ⟨some 3,.mov (.cst (.d (.int .i64 0))),none⟩])
 (.seq
  (.seq
  (.reg [] [⟨some 4,.fad 6 (.tmp 1),none⟩,
   ⟨some 5,.ld false 1 (.tmp 4),none⟩,
   ⟨some 6,.not (.tmp 5),none⟩])
  (.cond (.tmp 6)
   (.seq
   (.reg [] [⟨some 7,.build [(.d (.int .i64 0)),(.d (.int .i64 0)),(.d (.int .i64 0)),(.d (.int .i64 0)),(.nils 1),(.d (.bool false)),(.d (.bool false))] [],none⟩,
    ⟨none,.st 7 (.tmp 2) (.tmp 7),none⟩,
    ⟨some 3,.mov (.cst (.d (.int .i64 22))),none⟩])
   .ret)
   .skip))
  (.seq
  (.reg [] [⟨some 8,.fad 1 (.tmp 1),none⟩,
   ⟨some 9,.ld false 1 (.tmp 8),none⟩,
   ⟨some 10,.fad 1 (.tmp 1),none⟩,
   ⟨some 11,.ld false 1 (.tmp 10),none⟩,
   ⟨some 12,.build [(.d (.int .i64 0)),(.d (.int .i64 0)),(.d (.int .i64 0)),(.d (.int .i64 0)),(.nils 1),(.d (.bool false)),(.d (.bool false))] [(0,1,(.tmp 9)),(1,1,(.tmp 11))],none⟩,
   ⟨none,.st 7 (.tmp 2) (.tmp 12),none⟩,
   ⟨some 3,.mov (.cst (.d (.int .i64 0))),none⟩])
  .ret)))⟩
theorem beg_n {s:Sto} {v n m:Int} (h:begE s v n m=0):1≤n∧n≤16:=within_ok (firstOf_zero h (within3 n 1 16) (by simp))
theorem c67 (s:Sto) (v n m:Int) (h:s.ok):CallDet Tryz.prog 67 [.d s.d,.d (.int .i64 v),.d (.int .i64 n),.d (.int .i64 m)] [(opS s (begE s v n m) (begS s v n m)).d,.int .i64 (opE s (begE s v n m))]:=by
 have c83_:=c83 s h
 have cl:CallDet Tryz.prog 99 [.d (.slice 1 [.int .i64 (chkS s),.int .i64 (within3 v 1 10000),.int .i64 (within3 n 1 16),.int .i64 (within3 m 0 9972),.int .i64 (bif s.tr then 22 else 0),.int .i64 (bif decide (v≤s.ru) then 35 else 0)])] [.int .i64 (opE s (begE s v n m))]:=c99 [chkS s,within3 v 1 10000,within3 n 1 16,within3 m 0 9972,bif s.tr then 22 else 0,bif decide (v≤s.ru) then 35 else 0] (by simp)
 have hS1:opE s (begE s v n m)≠0→opS s (begE s v n m) (begS s v n m)=sto0:=opS_t
 have hS2:opE s (begE s v n m)=0→opS s (begE s v n m) (begS s v n m)=begS s v n m:=opS_f
 generalize hE:opE s (begE s v n m)=E at *
 have c99_:=cl
 refine call_of_vc (x:=jr67) (by kernel_rfl) rfl ?_
 by_cases h0:E=0
 ·rw [hS2 h0]
  have hn:=beg_n (opE_z (hE.trans h0)).2
  have n1:(E != 0)=false:=nE_f h0
  have n2:∀ d:Data,resV [d,.int .i64 0]=resV [d,.int .i64 E]:=fun d=>by rw [h0]
  refine ca c83_ ?_
  refine ca (c122 _ _ _) ?_
  refine ca (c122 _ _ _) ?_
  refine ca (c122 _ _ _) ?_
  refine ca (c103 _ _) ?_
  refine sd ?_
  refine ca (c103 _ _) ?_
  refine sd ?_
  refine sd ?_
  refine ca c99_ ?_
  refine sd ?_
  refine b_f n1 ?_
  refine an ?_ ?_
  refine an ?_ ?_
  (show (0:Int)≤n; omega)
  refine an ?_ ?_
  (show n * (↑(24:Nat):Int)≤(2:Int) ^ (47:Nat); omega)
  (show n≤(2:Int) ^ (47:Nat); omega)
  refine an ?_ ?_
  focus (show List.length (List.replicate (Int.toNat n) (Data.slice (1:Nat) []))=Int.toNat n; simp only [List.length_replicate,List.length_set,List.length_append,List.length_take,List.length_drop]; done)
  refine an ?_ ?_
  focus (show List.length (List.replicate (Int.toNat n) (Data.slice (1:Nat) []))=Int.toNat n; simp only [List.length_replicate,List.length_set,List.length_append,List.length_take,List.length_drop]; done)
  rotate_left
  show resV [.agg [.int .i64 s.ru,.int .i64 s.ol,.int .i64 v,.int .i64 m,.slice 1 (List.replicate n.toNat (.slice 1 [])),.bool false,.bool false],.int .i64 0]=resV [Sto.d (begS s v n m),.int .i64 E]
  rw [pss_nil]
  all_goals exact n2 _
 ·rw [hS1 h0]
  have n1:(E != 0)=true:=nE_t h0
  refine ca c83_ ?_
  refine ca (c122 _ _ _) ?_
  refine ca (c122 _ _ _) ?_
  refine ca (c122 _ _ _) ?_
  refine ca (c103 _ _) ?_
  refine sd ?_
  refine ca (c103 _ _) ?_
  refine sd ?_
  refine sd ?_
  refine ca c99_ ?_
  refine sd ?_
  refine b_t n1 ?_
  exact rfl
theorem c70 (s:Sto) (h:s.ok):CallDet Tryz.prog 70 [.d s.d] [(opS s (cheE s) (cheS s)).d,.int .i64 (opE s (cheE s))]:=by
 have c83_:=c83 s h
 have c141_:=c141 s
 have c143_:=c143 s h
 have c140_:=c140 s.ps h.1 h.2
 have c142_:=c142 s h
 have cl:CallDet Tryz.prog 99 [.d (.slice 1 [.int .i64 (chkS s),.int .i64 (recvE s),.int .i64 (bif miss s.ps then 16 else 0),.int .i64 (bif psum s.ps != s.su then 27 else 0)])] [.int .i64 (opE s (cheE s))]:=c99 [chkS s,recvE s,bif miss s.ps then 16 else 0,bif psum s.ps != s.su then 27 else 0] (by simp)
 have hS1:opE s (cheE s)≠0→opS s (cheE s) (cheS s)=sto0:=opS_t
 have hS2:opE s (cheE s)=0→opS s (cheE s) (cheS s)=cheS s:=opS_f
 generalize hE:opE s (cheE s)=E at *
 have c99_:=cl
 refine call_of_vc (x:=jr70) (by kernel_rfl) rfl ?_
 by_cases h0:E=0
 ·rw [hS2 h0]
  have n1:(E != 0)=false:=nE_f h0
  have n2:∀ d:Data,resV [d,.int .i64 0]=resV [d,.int .i64 E]:=fun d=>by rw [h0]
  refine ca c83_ ?_
  refine ca c141_ ?_
  refine ca c143_ ?_
  refine ca (c103 _ _) ?_
  refine ca c140_ ?_
  refine sd ?_
  refine ca (c103 _ _) ?_
  refine sd ?_
  refine sd ?_
  refine ca c99_ ?_
  refine sd ?_
  refine b_f n1 ?_
  refine ca c142_ ?_
  rotate_left
  all_goals exact n2 _
 ·rw [hS1 h0]
  have n1:(E != 0)=true:=nE_t h0
  refine ca c83_ ?_
  refine ca c141_ ?_
  refine ca c143_ ?_
  refine ca (c103 _ _) ?_
  refine ca c140_ ?_
  refine sd ?_
  refine ca (c103 _ _) ?_
  refine sd ?_
  refine sd ?_
  refine ca c99_ ?_
  refine sd ?_
  refine b_t n1 ?_
  exact rfl
theorem c144 (s:Sto) (r:Int) (h:s.ok):CallDet Tryz.prog 144 [.d s.d,.d (.int .i64 r)] [(opS s (endE s) (endS s r)).d,.int .i64 (opE s (endE s))]:=by
 have c83_:=c83 s h
 have cl:CallDet Tryz.prog 99 [.d (.slice 1 [.int .i64 (chkS s),.int .i64 (bif !s.tr then 22 else 0)])] [.int .i64 (opE s (endE s))]:=by rw [← op_one]; exact c99 [chkS s,bif !s.tr then 22 else 0] (by simp)
 have hS1:opE s (endE s)≠0→opS s (endE s) (endS s r)=sto0:=opS_t
 have hS2:opE s (endE s)=0→opS s (endE s) (endS s r)=endS s r:=opS_f
 generalize hE:opE s (endE s)=E at *
 have c99_:=cl
 refine call_of_vc (x:=jr144) (by kernel_rfl) rfl ?_
 by_cases h0:E=0
 ·rw [hS2 h0]
  have n1:(E != 0)=false:=nE_f h0
  have n2:∀ d:Data,resV [d,.int .i64 0]=resV [d,.int .i64 E]:=fun d=>by rw [h0]
  refine ca c83_ ?_
  refine ca (c103 _ _) ?_
  refine sd ?_
  refine sd ?_
  refine ca c99_ ?_
  refine sd ?_
  refine b_f n1 ?_
  rotate_left
  all_goals exact n2 _
 ·rw [hS1 h0]
  have n1:(E != 0)=true:=nE_t h0
  refine ca c83_ ?_
  refine ca (c103 _ _) ?_
  refine sd ?_
  refine sd ?_
  refine ca c99_ ?_
  refine sd ?_
  refine b_t n1 ?_
  exact rfl
theorem c72 (s:Sto) (h:s.ok):CallDet Tryz.prog 72 [.d s.d] [(opS s (endE s) (endS s s.ru)).d,.int .i64 (opE s (endE s))]:=by
 have c144_:=c144 s s.ru h
 refine call_of_vc (x:=jr72) (by kernel_rfl) rfl ?_
 refine ca c144_ ?_
 exact rfl
theorem c73 (s:Sto) (h:s.ok):CallDet Tryz.prog 73 [.d s.d] [(opS s (endE s) (endS s s.ol)).d,.int .i64 (opE s (endE s))]:=by
 have c144_:=c144 s s.ol h
 refine call_of_vc (x:=jr73) (by kernel_rfl) rfl ?_
 refine ca c144_ ?_
 exact rfl
theorem c81 (s:Sto):CallDet Tryz.prog 81 [.d s.d] [(refS (endE s) (endS s s.ru)).d,.int .i64 (endE s)]:=by
 refine call_of_vc (x:=jr81) (by kernel_rfl) rfl ?_
 unfold refS endE
 cases ht:s.tr
 ·have nt:(!s.tr)=true:=by rw [ht]; rfl
  refine b_t nt ?_
  exact rfl
 ·have nt:(!s.tr)=false:=by rw [ht]; rfl
  refine b_f nt ?_
  exact rfl
theorem c82 (s:Sto):CallDet Tryz.prog 82 [.d s.d] [(refS (endE s) (endS s s.ol)).d,.int .i64 (endE s)]:=by
 refine call_of_vc (x:=jr82) (by kernel_rfl) rfl ?_
 unfold refS endE
 cases ht:s.tr
 ·have nt:(!s.tr)=true:=by rw [ht]; rfl
  refine b_t nt ?_
  exact rfl
 ·have nt:(!s.tr)=false:=by rw [ht]; rfl
  refine b_f nt ?_
  exact rfl
theorem c80 (s:Sto):CallDet Tryz.prog 80 [.d s.d] [(refS (triE s) (triS s)).d,.int .i64 (triE s)]:=by
 refine call_of_vc (x:=jr80) (by kernel_rfl) rfl ?_
 unfold refS triE triS
 cases hk:s.ck <;> cases ht:s.tr
 ·have nk:(!s.ck)=true:=by rw [hk]; rfl
  refine b_t nk ?_
  refine sd ?_
  exact rfl
 ·have nk:(!s.ck)=true:=by rw [hk]; rfl
  refine b_t nk ?_
  refine sd ?_
  exact rfl
 ·have nk:(!s.ck)=false:=by rw [hk]; rfl
  refine b_f nk ?_
  refine b_f ht ?_
  exact rfl
 ·have nk:(!s.ck)=false:=by rw [hk]; rfl
  refine b_f nk ?_
  refine b_t ht ?_
  exact rfl
theorem c71 (s:Sto) (h:s.ok):CallDet Tryz.prog 71 [.d s.d] [(opS s (triE s) (triS s)).d,.int .i64 (opE s (triE s))]:=by
 have c83_:=c83 s h
 have c142_:=c142 s h
 have hS1:opE s (triE s)≠0→opS s (triE s) (triS s)=sto0:=opS_t
 have hS2:opE s (triE s)=0→opS s (triE s) (triS s)=triS s:=opS_f
 have cl:∀ x,x=triE s→CallDet Tryz.prog 99 [.d (.slice 1 [.int .i64 (chkS s),.int .i64 x])] [.int .i64 (opE s (triE s))]:=fun x hx=>by rw [hx,← op_one]; exact c99 [chkS s,triE s] (by simp)
 have c99_a:=cl 22
 have c99_b:=cl (bif s.tr then 22 else 0)
 clear cl
 generalize hE:opE s (triE s)=E at *
 unfold triE at c99_a c99_b
 refine call_of_vc (x:=jr71) (by kernel_rfl) rfl ?_
 cases hk:s.ck
 ·have nk:(!s.ck)=true:=by rw [hk]; rfl
  rw [hk] at c99_a
  have c99_:=c99_a rfl
  by_cases h0:E=0
  ·rw [hS2 h0]
   have n1:(E != 0)=false:=nE_f h0
   have n2:∀ d:Data,resV [d,.int .i64 0]=resV [d,.int .i64 E]:=fun d=>by rw [h0]
   have:=(opE_z (hE.trans h0)).2
   unfold triE at this
   rw [hk] at this
   exact absurd (show (22:Int)=0 from this) (by decide)
  ·rw [hS1 h0]
   have n1:(E != 0)=true:=nE_t h0
   refine ca c83_ ?_
   refine b_t nk ?_
   refine sd ?_
   refine ca (c103 _ _) ?_
   refine sd ?_
   refine sd ?_
   refine ca c99_ ?_
   refine sd ?_
   refine b_t n1 ?_
   exact rfl
 ·have nk:(!s.ck)=false:=by rw [hk]; rfl
  rw [hk] at c99_b
  have c99_:=c99_b rfl
  by_cases h0:E=0
  ·rw [hS2 h0]
   have n1:(E != 0)=false:=nE_f h0
   have n2:∀ d:Data,resV [d,.int .i64 0]=resV [d,.int .i64 E]:=fun d=>by rw [h0]
   refine ca c83_ ?_
   refine b_f nk ?_
   refine ca (c103 _ _) ?_
   refine sd ?_
   refine sd ?_
   refine ca c99_ ?_
   refine sd ?_
   refine b_f n1 ?_
   refine ca c142_ ?_
   rotate_left
   unfold Sto.d triS
   dsimp only
   rw [hk]
   all_goals exact n2 _
  ·rw [hS1 h0]
   have n1:(E != 0)=true:=nE_t h0
   refine ca c83_ ?_
   refine b_f nk ?_
   refine ca (c103 _ _) ?_
   refine sd ?_
   refine sd ?_
   refine ca c99_ ?_
   refine sd ?_
   refine b_t n1 ?_
   exact rfl
theorem c79 (s:Sto) (h:s.ok):CallDet Tryz.prog 79 [.d s.d] [(refS (cheE s) (cheS s)).d,.int .i64 (cheE s)]:=by
 have c146_:=c146 s.ps h.1
 have c76_:=c76 s.ps h.1 h.2
 have hS1:cheE s≠0→refS (cheE s) (cheS s)=sto0:=refS_t
 have hS2:cheE s=0→refS (cheE s) (cheS s)=cheS s:=refS_f
 have cl:∀ x,x=recvE s→CallDet Tryz.prog 110 [.d (.slice 1 [.int .i64 x,.int .i64 (bif !(!miss s.ps) then 16 else 0),.int .i64 (bif psum s.ps != s.su then 27 else 0)])] [.int .i64 (cheE s)]:=fun x hx=>by rw [hx,Bool.not_not]; exact c110 [recvE s,bif miss s.ps then 16 else 0,bif psum s.ps != s.su then 27 else 0] (by simp)
 have c110_a:=cl 22
 have c110_b:=cl (bif s.tr then 22 else 0)
 unfold recvE at c110_a c110_b
 clear cl
 generalize cheE s=E at *
 refine call_of_vc (x:=jr79) (by kernel_rfl) rfl ?_
 cases hk:(s.nw==0)
 ·rw [hk] at c110_b
  have c110_:=c110_b rfl
  clear c110_a c110_b
  by_cases h0:E=0
  ·rw [hS2 h0]
   have n1:(E != 0)=false:=nE_f h0
   have n2:∀ d:Data,resV [d,.int .i64 0]=resV [d,.int .i64 E]:=fun d=>by rw [h0]
   refine sd ?_
   refine b_f hk ?_
   refine ca (c22 _ _) ?_
   refine ca c146_ ?_
   refine ca (c22 _ _) ?_
   refine ca c76_ ?_
   refine sd ?_
   refine ca (c22 _ _) ?_
   refine sd ?_
   refine sd ?_
   refine ca c110_ ?_
   refine sd ?_
   refine b_f n1 ?_
   rotate_left
   all_goals exact n2 _
  ·rw [hS1 h0]
   have n1:(E != 0)=true:=nE_t h0
   refine sd ?_
   refine b_f hk ?_
   refine ca (c22 _ _) ?_
   refine ca c146_ ?_
   refine ca (c22 _ _) ?_
   refine ca c76_ ?_
   refine sd ?_
   refine ca (c22 _ _) ?_
   refine sd ?_
   refine sd ?_
   refine ca c110_ ?_
   refine sd ?_
   refine b_t n1 ?_
   exact rfl
 ·rw [hk] at c110_a
  have c110_:=c110_a rfl
  clear c110_a c110_b
  by_cases h0:E=0
  ·rw [hS2 h0]
   have n1:(E != 0)=false:=nE_f h0
   have n2:∀ d:Data,resV [d,.int .i64 0]=resV [d,.int .i64 E]:=fun d=>by rw [h0]
   refine sd ?_
   refine b_t hk ?_
   refine sd ?_
   refine ca (c22 _ _) ?_
   refine ca c146_ ?_
   refine ca (c22 _ _) ?_
   refine ca c76_ ?_
   refine sd ?_
   refine ca (c22 _ _) ?_
   refine sd ?_
   refine sd ?_
   refine ca c110_ ?_
   refine sd ?_
   refine b_f n1 ?_
   rotate_left
   all_goals exact n2 _
  ·rw [hS1 h0]
   have n1:(E != 0)=true:=nE_t h0
   refine sd ?_
   refine b_t hk ?_
   refine sd ?_
   refine ca (c22 _ _) ?_
   refine ca c146_ ?_
   refine ca (c22 _ _) ?_
   refine ca c76_ ?_
   refine sd ?_
   refine ca (c22 _ _) ?_
   refine sd ?_
   refine sd ?_
   refine ca c110_ ?_
   refine sd ?_
   refine b_t n1 ?_
   exact rfl
end Vc
