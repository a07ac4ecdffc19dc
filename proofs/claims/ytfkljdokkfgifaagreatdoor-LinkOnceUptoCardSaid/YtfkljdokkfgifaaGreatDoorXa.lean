import Derived.Test.YtfkljdokkfgifaaGreatDoorWe
import Derived.Test.YtfkljdokkfgifaaGreatDoorWf
set_option linter.unusedSectionVars false
set_option linter.unusedVariables false
set_option linter.unusedSimpArgs false
set_option maxRecDepth 10000
namespace Vc
open Go Go.Proofs
/-- kilovar/kilovarlaw04.sender -/
def ir32 : AFun := ⟨11, 2, [.cell 2 3 true],
 (.seq
 (.reg [0, 1] [⟨some 1, .cbx 0 3 (.tmp 0), none⟩,
 ⟨some 2, .alloc 1 [(.nils 4), (.d (.int .i64 0)), (.d (.int .i64 0))], none⟩])
 (.seq
 (.regd [] [⟨some 3, .fad 0 (.tmp 1), none⟩,
 ⟨some 4, .ld false 1 (.tmp 3), none⟩,
 ⟨some 5, .call 15 [(.tmp 4)], none⟩,
 ⟨some 6, .fad 1 (.tmp 1), none⟩,
 ⟨some 7, .ld false 1 (.tmp 6), none⟩,
 ⟨some 8, .fad 2 (.tmp 1), none⟩,
 ⟨some 9, .ld false 1 (.tmp 8), none⟩,
 ⟨some 10, .build [(.nils 4), (.d (.int .i64 0)), (.d (.int .i64 0))] [(0, 1, (.tmp 5)), (1, 1, (.tmp 7)), (2, 1, (.tmp 9))], none⟩,
 ⟨none, .st 3 (.tmp 2) (.tmp 10), none⟩] [(0, 3), (1, 3), (2, 3), (0, 4), (1, 4), (2, 4), (0, 5), (1, 5), (2, 5), (3, 5), (4, 5), (0, 6), (1, 6), (2, 6), (3, 6), (4, 6)])
 .ret))⟩

/-- kilovar/kilovarlaw04.receiver -/
def ir34 : AFun := ⟨9, 2, [.cell 2 2 true],
 (.seq
 (.reg [0, 1] [⟨some 1, .cbx 0 2 (.tmp 0), none⟩,
 ⟨some 2, .alloc 1 [(.d (.int .i64 0)), (.nils 4)], none⟩])
 (.seq
 (.regd [] [⟨some 3, .fad 0 (.tmp 1), none⟩,
 ⟨some 4, .ld false 1 (.tmp 3), none⟩,
 ⟨some 5, .fad 1 (.tmp 1), none⟩,
 ⟨some 6, .ld false 1 (.tmp 5), none⟩,
 ⟨some 7, .call 15 [(.tmp 6)], none⟩,
 ⟨some 8, .build [(.d (.int .i64 0)), (.nils 4)] [(0, 1, (.tmp 4)), (1, 1, (.tmp 7))], none⟩,
 ⟨none, .st 2 (.tmp 2) (.tmp 8), none⟩] [(0, 2), (1, 2), (0, 3), (1, 3), (0, 4), (1, 4)])
 .ret))⟩

/-- kilovar/kilovarref04.CheckSender -/
def ir36 : AFun := ⟨17, 2, [.tmp 2],
 (.seq
 (.reg [0] [⟨some 1, .cbx 0 3 (.tmp 0), none⟩,
 ⟨some 2, .mov (.cst (.d (.int .i64 0))), none⟩])
 (.seq
 (.regd [1] [⟨some 3, .fad 0 (.tmp 1), none⟩,
 ⟨some 4, .ld false 1 (.tmp 3), none⟩,
 ⟨some 5, .call 18 [(.tmp 4)], none⟩,
 ⟨some 6, .fad 1 (.tmp 1), none⟩,
 ⟨some 7, .ld false 1 (.tmp 6), none⟩,
 ⟨some 8, .fad 0 (.tmp 1), none⟩,
 ⟨some 9, .ld false 1 (.tmp 8), none⟩,
 ⟨some 10, .len (.tmp 9), none⟩,
 ⟨some 11, .call 62 [(.tmp 7), (.cst (.d (.int .i64 0))), (.tmp 10)], none⟩,
 ⟨some 12, .fad 2 (.tmp 1), none⟩,
 ⟨some 13, .ld false 1 (.tmp 12), none⟩,
 ⟨some 14, .call 62 [(.tmp 13), (.cst (.d (.int .i64 1))), (.cst (.d (.int .i64 8)))], none⟩,
 ⟨some 15, .bsl 1 3 1 3 [(.int .i64 0), (.int .i64 0), (.int .i64 0)] [(0, (.tmp 5)), (1, (.tmp 11)), (2, (.tmp 14))], none⟩,
 ⟨some 16, .call 89 [(.tmp 15)], none⟩,
 ⟨some 2, .mov (.tmp 16), none⟩] [(0, 3), (1, 3), (2, 3), (0, 4), (1, 4), (2, 4), (0, 5), (1, 5), (2, 5), (3, 5), (4, 5), (0, 6), (1, 6), (2, 6), (3, 6), (4, 6), (0, 7), (1, 7), (2, 7), (3, 7), (4, 7), (0, 9), (1, 9), (2, 9), (3, 9), (4, 9), (5, 9), (6, 9), (7, 9), (8, 9), (0, 10), (1, 10), (2, 10), (3, 10), (4, 10), (5, 10), (6, 10), (7, 10), (8, 10)])
 .ret))⟩

/-- kilovar/kilovarref04.CheckReceiver -/
def ir38 : AFun := ⟨15, 2, [.tmp 2],
 (.seq
 (.reg [0] [⟨some 1, .cbx 0 2 (.tmp 0), none⟩,
 ⟨some 2, .mov (.cst (.d (.int .i64 0))), none⟩])
 (.seq
 (.regd [1] [⟨some 3, .fad 1 (.tmp 1), none⟩,
 ⟨some 4, .ld false 1 (.tmp 3), none⟩,
 ⟨some 5, .call 18 [(.tmp 4)], none⟩,
 ⟨some 6, .fad 0 (.tmp 1), none⟩,
 ⟨some 7, .ld false 1 (.tmp 6), none⟩,
 ⟨some 8, .fad 1 (.tmp 1), none⟩,
 ⟨some 9, .ld false 1 (.tmp 8), none⟩,
 ⟨some 10, .len (.tmp 9), none⟩,
 ⟨some 11, .cmp .neq (.tmp 7) (.tmp 10), none⟩,
 ⟨some 12, .call 66 [(.tmp 11), (.cst (.d (.int .i64 2)))], none⟩,
 ⟨some 13, .bsl 1 3 1 2 [(.int .i64 0), (.int .i64 0)] [(0, (.tmp 5)), (1, (.tmp 12))], none⟩,
 ⟨some 14, .call 89 [(.tmp 13)], none⟩,
 ⟨some 2, .mov (.tmp 14), none⟩] [(0, 3), (1, 3), (2, 3), (0, 4), (1, 4), (2, 4), (0, 5), (1, 5), (2, 5), (3, 5), (4, 5), (0, 6), (1, 6), (2, 6), (3, 6), (4, 6), (0, 7), (1, 7), (2, 7), (3, 7), (4, 7), (0, 8), (1, 8), (2, 8)])
 .ret))⟩

/-- kilovar/kilovarref04.CheckNumber -/
def ir39 : AFun := ⟨5, 0, [.tmp 2],
 (.seq
 (.reg [] [⟨some 2, .mov (.cst (.d (.int .i64 0))), none⟩])
 (.seq
 (.reg [] [⟨some 3, .mov (.tmp 0), none⟩,
 ⟨some 4, .call 62 [(.tmp 3), (.cst (.d (.int .i64 0))), (.cst (.d (.int .i64 15)))], none⟩,
 ⟨some 2, .mov (.tmp 4), none⟩])
 .ret))⟩

/-- kilovar/link.CheckSender -/
def ir43 : AFun := ⟨17, 2, [.tmp 2],
 (.seq
 (.reg [0] [⟨some 1, .cbx 0 3 (.tmp 0), none⟩,
 ⟨some 2, .mov (.cst (.d (.int .i64 0))), none⟩])
 (.seq
 (.regd [1] [⟨some 3, .fad 0 (.tmp 1), none⟩,
 ⟨some 4, .ld false 1 (.tmp 3), none⟩,
 ⟨some 5, .call 85 [(.tmp 4)], none⟩,
 ⟨some 6, .fad 1 (.tmp 1), none⟩,
 ⟨some 7, .ld false 1 (.tmp 6), none⟩,
 ⟨some 8, .fad 0 (.tmp 1), none⟩,
 ⟨some 9, .ld false 1 (.tmp 8), none⟩,
 ⟨some 10, .len (.tmp 9), none⟩,
 ⟨some 11, .call 82 [(.tmp 7), (.cst (.d (.int .i64 0))), (.tmp 10)], none⟩,
 ⟨some 12, .fad 2 (.tmp 1), none⟩,
 ⟨some 13, .ld false 1 (.tmp 12), none⟩,
 ⟨some 14, .call 82 [(.tmp 13), (.cst (.d (.int .i64 1))), (.cst (.d (.int .i64 8)))], none⟩,
 ⟨some 15, .bsl 1 31 1 3 [(.int .i64 0), (.int .i64 0), (.int .i64 0)] [(0, (.tmp 5)), (1, (.tmp 11)), (2, (.tmp 14))], none⟩,
 ⟨some 16, .call 81 [(.tmp 15)], none⟩,
 ⟨some 2, .mov (.tmp 16), none⟩] [(0, 3), (1, 3), (2, 3), (0, 4), (1, 4), (2, 4), (0, 5), (1, 5), (2, 5), (3, 5), (4, 5), (0, 6), (1, 6), (2, 6), (3, 6), (4, 6), (0, 7), (1, 7), (2, 7), (3, 7), (4, 7), (0, 9), (1, 9), (2, 9), (3, 9), (4, 9), (5, 9), (6, 9), (7, 9), (8, 9), (0, 10), (1, 10), (2, 10), (3, 10), (4, 10), (5, 10), (6, 10), (7, 10), (8, 10)])
 .ret))⟩

/-- kilovar/link.CheckReceiver -/
def ir44 : AFun := ⟨15, 2, [.tmp 2],
 (.seq
 (.reg [0] [⟨some 1, .cbx 0 2 (.tmp 0), none⟩,
 ⟨some 2, .mov (.cst (.d (.int .i64 0))), none⟩])
 (.seq
 (.regd [1] [⟨some 3, .fad 1 (.tmp 1), none⟩,
 ⟨some 4, .ld false 1 (.tmp 3), none⟩,
 ⟨some 5, .call 85 [(.tmp 4)], none⟩,
 ⟨some 6, .fad 0 (.tmp 1), none⟩,
 ⟨some 7, .ld false 1 (.tmp 6), none⟩,
 ⟨some 8, .fad 1 (.tmp 1), none⟩,
 ⟨some 9, .ld false 1 (.tmp 8), none⟩,
 ⟨some 10, .len (.tmp 9), none⟩,
 ⟨some 11, .cmp .neq (.tmp 7) (.tmp 10), none⟩,
 ⟨some 12, .call 83 [(.tmp 11), (.cst (.d (.int .i64 2)))], none⟩,
 ⟨some 13, .bsl 1 31 1 2 [(.int .i64 0), (.int .i64 0)] [(0, (.tmp 5)), (1, (.tmp 12))], none⟩,
 ⟨some 14, .call 81 [(.tmp 13)], none⟩,
 ⟨some 2, .mov (.tmp 14), none⟩] [(0, 3), (1, 3), (2, 3), (0, 4), (1, 4), (2, 4), (0, 5), (1, 5), (2, 5), (3, 5), (4, 5), (0, 6), (1, 6), (2, 6), (3, 6), (4, 6), (0, 7), (1, 7), (2, 7), (3, 7), (4, 7), (0, 8), (1, 8), (2, 8)])
 .ret))⟩

/-- kilovar/kilovarref01.SameInts -/
def ir45 : AFun := ⟨26, 0, [.tmp 4],
 (.seq
 (.reg [] [⟨some 4, .mov (.cst (.d (.bool false))), none⟩])
 (.seq
 (.seq
 (.reg [] [⟨some 6, .mov (.tmp 0), none⟩,
 ⟨some 7, .len (.tmp 6), none⟩,
 ⟨some 8, .mov (.tmp 1), none⟩,
 ⟨some 9, .len (.tmp 8), none⟩,
 ⟨some 10, .cmp .neq (.tmp 7) (.tmp 9), none⟩])
 (.cond (.tmp 10)
 (.seq
 (.reg [] [⟨some 4, .mov (.cst (.d (.bool false))), none⟩])
 .ret)
 .skip))
 (.seq
 (.seq
 (.reg [] [⟨some 5, .mov (.cst (.d (.int .i64 0))), none⟩])
 (.post [] []
 (.block 0
 (.keep [0, 1, 5] []
 (.loop
 (.post [0, 1, 5] []
 (.seq
 (.seq
 (.reg [] [⟨some 11, .mov (.tmp 5), none⟩,
 ⟨some 12, .mov (.tmp 0), none⟩,
 ⟨some 13, .len (.tmp 12), none⟩,
 ⟨some 14, .cmp .lss (.tmp 11) (.tmp 13), none⟩])
 (.cond (.tmp 14)
 .skip
 (.exit 0)))
 (.seq
 (.block 1
 (.seq
 (.regd [] [⟨some 17, .mov (.tmp 0), none⟩,
 ⟨some 18, .mov (.tmp 5), none⟩,
 ⟨some 19, .ixa 1 (.tmp 17) (.tmp 18), none⟩,
 ⟨some 20, .ld false 1 (.tmp 19), none⟩,
 ⟨some 21, .mov (.tmp 1), none⟩,
 ⟨some 22, .mov (.tmp 5), none⟩,
 ⟨some 23, .ixa 1 (.tmp 21) (.tmp 22), none⟩,
 ⟨some 24, .ld false 1 (.tmp 23), none⟩,
 ⟨some 25, .cmp .neq (.tmp 20) (.tmp 24), none⟩] [(0, 1), (0, 4), (1, 4), (2, 4), (3, 4), (0, 5), (1, 5), (2, 5), (3, 5), (4, 5), (0, 6), (1, 6), (2, 6), (3, 6), (0, 7), (1, 7), (2, 7), (3, 7)])
 (.cond (.tmp 25)
 (.seq
 (.reg [] [⟨some 4, .mov (.cst (.d (.bool false))), none⟩])
 .ret)
 .skip)))
 (.reg [] [⟨some 15, .mov (.tmp 5), none⟩,
 ⟨some 16, .arith .add .i64 (.tmp 15) (.cst (.d (.int .i64 1))), none⟩,
 ⟨some 5, .mov (.tmp 16), none⟩])))))))))
 (.seq
 (.reg [] [⟨some 4, .mov (.cst (.d (.bool true))), none⟩])
 .ret))))⟩

/-- kilovar/kilovarlaw04.heard -/
def ir46 : AFun := ⟨18, 2, [.tmp 4],
 (.seq
 (.reg [0, 1] [⟨some 2, .cbx 0 2 (.tmp 0), none⟩,
 ⟨some 3, .cbx 1 2 (.tmp 1), none⟩,
 ⟨some 4, .mov (.cst (.d (.bool false))), none⟩])
 (.seq
 (.regd [] [⟨some 5, .fad 1 (.tmp 2), none⟩,
 ⟨some 6, .ld false 1 (.tmp 5), none⟩,
 ⟨some 7, .call 23 [(.tmp 6)], none⟩,
 ⟨some 8, .fad 1 (.tmp 3), none⟩,
 ⟨some 9, .ld false 1 (.tmp 8), none⟩,
 ⟨some 10, .call 22 [(.tmp 7), (.tmp 9)], none⟩,
 ⟨some 11, .mov (.tmp 10), none⟩,
 ⟨some 12, .fad 0 (.tmp 2), some (11, true)⟩,
 ⟨some 13, .ld false 1 (.tmp 12), some (11, true)⟩,
 ⟨some 14, .fad 0 (.tmp 3), some (11, true)⟩,
 ⟨some 15, .ld false 1 (.tmp 14), some (11, true)⟩,
 ⟨some 16, .cmp .eql (.tmp 13) (.tmp 15), some (11, true)⟩,
 ⟨some 17, .pick (.tmp 11) (.tmp 16) (.cst (.d (.bool false))), none⟩,
 ⟨some 4, .mov (.tmp 17), none⟩] [(0, 3), (1, 3), (2, 3), (0, 4), (1, 4), (2, 4), (7, 9), (8, 9), (7, 10), (8, 10)])
 .ret))⟩

/-- kilovar/kilovarlaw04.sent -/
def ir47 : AFun := ⟨25, 2, [.tmp 4],
 (.seq
 (.reg [0, 1] [⟨some 2, .cbx 0 3 (.tmp 0), none⟩,
 ⟨some 3, .cbx 1 3 (.tmp 1), none⟩,
 ⟨some 4, .mov (.cst (.d (.bool false))), none⟩])
 (.seq
 (.regd [] [⟨some 5, .fad 0 (.tmp 2), none⟩,
 ⟨some 6, .ld false 1 (.tmp 5), none⟩,
 ⟨some 7, .call 23 [(.tmp 6)], none⟩,
 ⟨some 8, .fad 0 (.tmp 3), none⟩,
 ⟨some 9, .ld false 1 (.tmp 8), none⟩,
 ⟨some 10, .call 22 [(.tmp 7), (.tmp 9)], none⟩,
 ⟨some 11, .mov (.tmp 10), none⟩,
 ⟨some 12, .fad 1 (.tmp 2), some (11, true)⟩,
 ⟨some 13, .ld false 1 (.tmp 12), some (11, true)⟩,
 ⟨some 14, .fad 1 (.tmp 3), some (11, true)⟩,
 ⟨some 15, .ld false 1 (.tmp 14), some (11, true)⟩,
 ⟨some 16, .cmp .eql (.tmp 13) (.tmp 15), some (11, true)⟩,
 ⟨some 17, .pick (.tmp 11) (.tmp 16) (.cst (.d (.bool false))), none⟩,
 ⟨some 18, .mov (.tmp 17), none⟩,
 ⟨some 19, .fad 2 (.tmp 2), some (18, true)⟩,
 ⟨some 20, .ld false 1 (.tmp 19), some (18, true)⟩,
 ⟨some 21, .fad 2 (.tmp 3), some (18, true)⟩,
 ⟨some 22, .ld false 1 (.tmp 21), some (18, true)⟩,
 ⟨some 23, .cmp .eql (.tmp 20) (.tmp 22), some (18, true)⟩,
 ⟨some 24, .pick (.tmp 18) (.tmp 23) (.cst (.d (.bool false))), none⟩,
 ⟨some 4, .mov (.tmp 24), none⟩] [(0, 3), (1, 3), (2, 3), (0, 4), (1, 4), (2, 4), (7, 9), (8, 9), (7, 10), (8, 10), (14, 16), (15, 16), (14, 17), (15, 17)])
 .ret))⟩

/-- (kilovar/link.Receiver).takes -/
def ir97 : AFun := ⟨10, 1, [.tmp 4],
 (.seq
 (.reg [0] [⟨some 2, .cbx 0 2 (.tmp 0), none⟩,
 ⟨some 4, .mov (.cst (.d (.bool false))), none⟩])
 (.seq
 (.reg [] [⟨some 5, .mov (.tmp 1), none⟩,
 ⟨some 6, .fad 0 (.tmp 2), none⟩,
 ⟨some 7, .ld false 1 (.tmp 6), none⟩,
 ⟨some 8, .arith .rem .i64 (.tmp 7) (.cst (.d (.int .i64 16))), none⟩,
 ⟨some 9, .cmp .eql (.tmp 5) (.tmp 8), none⟩,
 ⟨some 4, .mov (.tmp 9), none⟩])
 .ret))⟩


structure Sn where
  q : List Fr
  a : Int
  w : Int
def Sn.d (s : Sn) : Data := .agg [.slice 4 (frs s.q), .int .i64 s.a, .int .i64 s.w]
structure Rc where
  t : Int
  l : List Fr
def Rc.d (r : Rc) : Data := .agg [.int .i64 r.t, .slice 4 (frs r.l)]
def chkSn (s : Sn) : Int := firstOf [checkFrames s.q, within3 s.a 0 (frs s.q).length, within3 s.w 1 8]
def chkRc (r : Rc) : Int := firstOf [checkFrames r.l, bif (r.t != ((frs r.l).length : Int)) then 2 else 0]

theorem c32 (s : Sn) (hl : s.q.length ≤ 1048576) (hb : ∀ f ∈ s.q, f.b.length ≤ 1048576) : CallDet Tryz.prog 32 [.d s.d] [s.d] := by
  refine call_of_vc (x := ir32) (by kernel_rfl) rfl ?_
  refine Exists.intro _ (And.intro (c15 s.q hl hb) ?_)
  repeat refine And.intro rfl ?_
  exact rfl
theorem c34 (r : Rc) (hl : r.l.length ≤ 1048576) (hb : ∀ f ∈ r.l, f.b.length ≤ 1048576) : CallDet Tryz.prog 34 [.d r.d] [r.d] := by
  refine call_of_vc (x := ir34) (by kernel_rfl) rfl ?_
  refine Exists.intro _ (And.intro (c15 r.l hl hb) ?_)
  repeat refine And.intro rfl ?_
  exact rfl
theorem c36 (s : Sn) (hl : s.q.length ≤ 1048576) (ho : ∀ f ∈ s.q, f.ok) : CallDet Tryz.prog 36 [.d s.d] [.int .i64 (chkSn s)] := by
  refine call_of_vc (x := ir36) (by kernel_rfl) rfl ?_
  refine Exists.intro _ (And.intro (c18 s.q hl ho) ?_)
  refine Exists.intro _ (And.intro (c62 s.a 0 (frs s.q).length) ?_)
  refine Exists.intro _ (And.intro (c62 s.w 1 8) ?_)
  repeat refine And.intro rfl ?_
  refine Exists.intro _ (And.intro (c89 [checkFrames s.q, within3 s.a 0 (frs s.q).length, within3 s.w 1 8] (by simp)) ?_)
  exact rfl
theorem c43 (s : Sn) (hl : s.q.length ≤ 1048576) : CallDet Tryz.prog 43 [.d s.d] [.int .i64 (chkSn s)] := by
  refine call_of_vc (x := ir43) (by kernel_rfl) rfl ?_
  refine Exists.intro _ (And.intro (c85 s.q hl) ?_)
  refine Exists.intro _ (And.intro (c82 s.a 0 (frs s.q).length) ?_)
  refine Exists.intro _ (And.intro (c82 s.w 1 8) ?_)
  repeat refine And.intro rfl ?_
  refine Exists.intro _ (And.intro (c81 [checkFrames s.q, within3 s.a 0 (frs s.q).length, within3 s.w 1 8] (by simp)) ?_)
  exact rfl
theorem c38 (r : Rc) (hl : r.l.length ≤ 1048576) (ho : ∀ f ∈ r.l, f.ok) : CallDet Tryz.prog 38 [.d r.d] [.int .i64 (chkRc r)] := by
  refine call_of_vc (x := ir38) (by kernel_rfl) rfl ?_
  refine Exists.intro _ (And.intro (c18 r.l hl ho) ?_)
  refine And.intro rfl ?_
  refine Exists.intro _ (And.intro (c66 _ _) ?_)
  repeat refine And.intro rfl ?_
  refine Exists.intro _ (And.intro (c89 [checkFrames r.l, bif (r.t != ((frs r.l).length : Int)) then 2 else 0] (by simp)) ?_)
  exact rfl
theorem c44 (r : Rc) (hl : r.l.length ≤ 1048576) : CallDet Tryz.prog 44 [.d r.d] [.int .i64 (chkRc r)] := by
  refine call_of_vc (x := ir44) (by kernel_rfl) rfl ?_
  refine Exists.intro _ (And.intro (c85 r.l hl) ?_)
  refine And.intro rfl ?_
  refine Exists.intro _ (And.intro (c83 _ _) ?_)
  repeat refine And.intro rfl ?_
  refine Exists.intro _ (And.intro (c81 [checkFrames r.l, bif (r.t != ((frs r.l).length : Int)) then 2 else 0] (by simp)) ?_)
  exact rfl
theorem c37 (es : List Int) (hl : es.length < 9223372036854775807) : CallDet Tryz.prog 37 [.d (.slice 1 (ints es))] [.int .i64 (firstOf es)] := by
  refine call_of_vc (x := ir37) (by kernel_rfl) rfl ?_
  refine Exists.intro _ (And.intro (c89 es hl) ?_)
  exact rfl
theorem c39 (n : Int) : CallDet Tryz.prog 39 [.d (.int .i64 n)] [.int .i64 (within3 n 0 15)] := by
  refine call_of_vc (x := ir39) (by kernel_rfl) rfl ?_
  refine Exists.intro _ (And.intro (c62 n 0 15) ?_)
  exact rfl
theorem rem16 (a : Int) : arithF .rem .i64 a 16 = some (a.tmod 16) := by
  simp only [arithF]
  rw [if_neg (by decide)]
theorem c97 (r : Rc) (n : Int) : CallDet Tryz.prog 97 [.d r.d, .d (.int .i64 n)] [.bool (n == r.t.tmod 16)] := by
  refine call_of_vc (x := ir97) (by kernel_rfl) rfl ?_
  refine ar_is (rem16 r.t) ?_
  refine And.intro rfl ?_
  exact rfl
def heardB (x y : Rc) : Bool := sameFrames x.l y.l && (x.t == y.t)
theorem c46 (x y : Rc) (hl : x.l.length ≤ 1048576) : CallDet Tryz.prog 46 [.d x.d, .d y.d] [.bool (heardB x y)] := by
  refine call_of_vc (x := ir46) (by kernel_rfl) rfl ?_
  refine Exists.intro _ (And.intro (c23 x.l hl) ?_)
  refine Exists.intro _ (And.intro (c22 x.l y.l hl) ?_)
  refine brk_intro ?_ ?_
  · intro h
    have h : sameFrames x.l y.l = true := h
    repeat refine And.intro rfl ?_
    rw [heardB, h]
    exact rfl
  · intro h
    have h : sameFrames x.l y.l = false := h
    repeat refine And.intro rfl ?_
    rw [heardB, h]
    exact rfl
def sentB (x y : Sn) : Bool := sameFrames x.q y.q && ((x.a == y.a) && (x.w == y.w))
theorem c47 (x y : Sn) (hl : x.q.length ≤ 1048576) : CallDet Tryz.prog 47 [.d x.d, .d y.d] [.bool (sentB x y)] := by
  refine call_of_vc (x := ir47) (by kernel_rfl) rfl ?_
  refine Exists.intro _ (And.intro (c23 x.q hl) ?_)
  refine Exists.intro _ (And.intro (c22 x.q y.q hl) ?_)
  refine brk_intro ?_ ?_
  · intro h
    have h : sameFrames x.q y.q = true := h
    repeat refine And.intro rfl ?_
    refine brk_intro ?_ ?_
    · intro h2
      have h2 : (x.a == y.a) = true := h2
      repeat refine And.intro rfl ?_
      rw [sentB, h, h2]
      exact rfl
    · intro h2
      have h2 : (x.a == y.a) = false := h2
      repeat refine And.intro rfl ?_
      rw [sentB, h, h2]
      exact rfl
  · intro h
    have h : sameFrames x.q y.q = false := h
    repeat refine And.intro rfl ?_
    rw [sentB, h]
    exact rfl
theorem c45 (a b : List Int) (ha : a.length ≤ 1048576) : CallDet Tryz.prog 45 [.d (.slice 1 (ints a)), .d (.slice 1 (ints b))] [.bool (a == b)] := by
  refine call_of_vc (x := ir45) (by kernel_rfl) rfl ?_
  have hla : (ints a).length = a.length := by simp [ints]
  have hlb : (ints b).length = b.length := by simp [ints]
  refine And.intro rfl ?_
  refine brk_intro ?_ ?_
  · intro h
    have h : (((ints a).length : Int) != ((ints b).length : Int)) = true := h
    have hn : a.length ≠ b.length := fun e => by rw [hla, hlb, e] at h; simp at h
    have e : (a == b) = false := by
      simp only [beq_eq_false_iff_ne, ne_eq]
      exact fun e => hn (congrArg _ e)
    rw [e]
    exact rfl
  · intro h
    have h : (((ints a).length : Int) != ((ints b).length : Int)) = false := h
    have hl : a.length = b.length := by rw [hla, hlb] at h; simp at h; omega
    refine loop_st (fun k : Nat => ⟨[(0, .d (.slice 1 (ints a))), (1, .d (.slice 1 (ints b))), (5, .d (.int .i64 k))], []⟩)
      (fun k => (a == b) = (a.drop k == b.drop k)) (fun k => a.length - k) 0 rfl rfl ?_
    intro k hk
    refine And.intro rfl ?_
    refine brk_intro ?_ ?_
    · intro h
      have h : (k : Int) < (ints a).length := of_decide_eq_true h
      refine Exists.elim (⟨_, List.getElem?_eq_getElem (by omega)⟩ : ∃ x, a[k]? = some x) fun x hx => ?_
      refine Exists.elim (⟨_, List.getElem?_eq_getElem (by omega)⟩ : ∃ y, b[k]? = some y) fun y hy => ?_
      refine ix_at (ints_get hx) (by omega) ?_
      refine ix_at (ints_get hy) (by omega) ?_
      refine And.intro rfl ?_
      refine brk_intro ?_ ?_
      · intro h2
        have h2 : (x != y) = true := h2
        have e : (a == b) = false := by
          rw [hk, drop_at hx, drop_at hy]
          simp at h2 ⊢
          exact fun e => absurd e h2
        rw [e]
        exact rfl
      · intro h2
        have h2 : (x != y) = false := h2
        have he : x = y := by simpa using h2
        refine ar_add (by omega) ?_
        refine ⟨k + 1, ⟨?_, by omega⟩, rfl⟩
        rw [hk, drop_at hx, drop_at hy]
        simp [he]
    · intro h
      have h : ¬ ((k : Int) < (ints a).length) := of_decide_eq_false h
      have e : (a == b) = true := by
        rw [hk, List.drop_eq_nil_of_le (by omega), List.drop_eq_nil_of_le (by omega)]
        rfl
      rw [e]
      exact rfl
end Vc

set_option maxRecDepth 10000
namespace Vc
open Go Go.Proofs
/-- (kilovar/link.Sender).acknowledged -/
def ir100 : AFun := ⟨30, 1, [.tmp 4],
 (.seq
 (.reg [0] [⟨some 2, .cbx 0 3 (.tmp 0), none⟩,
 ⟨some 4, .mov (.cst (.d (.int .i64 0))), none⟩])
 (.seq
 (.reg [] [⟨some 6, .mov (.tmp 1), none⟩,
 ⟨some 7, .fad 1 (.tmp 2), none⟩,
 ⟨some 8, .ld false 1 (.tmp 7), none⟩,
 ⟨some 9, .arith .rem .i64 (.tmp 8) (.cst (.d (.int .i64 16))), none⟩,
 ⟨some 10, .arith .sub .i64 (.tmp 6) (.tmp 9), none⟩,
 ⟨some 11, .arith .add .i64 (.tmp 10) (.cst (.d (.int .i64 16))), none⟩,
 ⟨some 12, .arith .rem .i64 (.tmp 11) (.cst (.d (.int .i64 16))), none⟩,
 ⟨some 5, .mov (.tmp 12), none⟩])
 (.seq
 (.seq
 (.reg [] [⟨some 13, .mov (.tmp 5), none⟩,
 ⟨some 14, .fad 2 (.tmp 2), none⟩,
 ⟨some 15, .ld false 1 (.tmp 14), none⟩,
 ⟨some 16, .fad 0 (.tmp 2), none⟩,
 ⟨some 17, .ld false 1 (.tmp 16), none⟩,
 ⟨some 18, .len (.tmp 17), none⟩,
 ⟨some 19, .fad 1 (.tmp 2), none⟩,
 ⟨some 20, .ld false 1 (.tmp 19), none⟩,
 ⟨some 21, .arith .sub .i64 (.tmp 18) (.tmp 20), none⟩,
 ⟨some 22, .mini (.tmp 15) (.tmp 21), none⟩,
 ⟨some 23, .cmp .leq (.tmp 13) (.tmp 22), none⟩])
 (.cond (.tmp 23)
 (.seq
 (.reg [] [⟨some 24, .fad 1 (.tmp 2), none⟩,
 ⟨some 25, .ld false 1 (.tmp 24), none⟩,
 ⟨some 26, .mov (.tmp 5), none⟩,
 ⟨some 27, .arith .add .i64 (.tmp 25) (.tmp 26), none⟩,
 ⟨some 4, .mov (.tmp 27), none⟩])
 .ret)
 .skip))
 (.seq
 (.reg [] [⟨some 28, .fad 1 (.tmp 2), none⟩,
 ⟨some 29, .ld false 1 (.tmp 28), none⟩,
 ⟨some 4, .mov (.tmp 29), none⟩])
 .ret))))⟩

/-- kilovar/kilovarref04.Sent -/
def ir40 : AFun := ⟨37, 5, [.tmp 2, .tmp 3],
 (.seq
 (.reg [0] [⟨some 1, .cbx 0 3 (.tmp 0), none⟩,
 ⟨some 2, .mov (.cst (.nils 4)), none⟩,
 ⟨some 3, .mov (.cst (.nils 1)), none⟩])
 (.seq
 (.reg [] [⟨some 4, .mov (.cst (.nils 4)), none⟩])
 (.seq
 (.reg [] [⟨some 5, .mov (.cst (.nils 1)), none⟩])
 (.seq
 (.seq
 (.reg [] [⟨some 7, .fad 1 (.tmp 1), none⟩,
 ⟨some 8, .ld false 1 (.tmp 7), none⟩,
 ⟨some 6, .mov (.tmp 8), none⟩])
 (.post [4, 5] [0, 1, 2, 3, 4]
 (.block 0
 (.asrow 4 3 1 5
 (.asrow 2 46 4 4
 (.keep [1, 4, 5, 6] [0]
 (.loop
 (.post [1, 4, 5, 6] [1, 2, 3, 4]
 (.seq
 (.seq
 (.reg [] [⟨some 9, .mov (.tmp 6), none⟩,
 ⟨some 10, .fad 0 (.tmp 1), none⟩,
 ⟨some 11, .ld false 1 (.tmp 10), none⟩,
 ⟨some 12, .len (.tmp 11), none⟩,
 ⟨some 13, .fad 1 (.tmp 1), none⟩,
 ⟨some 14, .ld false 1 (.tmp 13), none⟩,
 ⟨some 15, .fad 2 (.tmp 1), none⟩,
 ⟨some 16, .ld false 1 (.tmp 15), none⟩,
 ⟨some 17, .arith .add .i64 (.tmp 14) (.tmp 16), none⟩,
 ⟨some 18, .mini (.tmp 12) (.tmp 17), none⟩,
 ⟨some 19, .cmp .lss (.tmp 9) (.tmp 18), none⟩])
 (.cond (.tmp 19)
 .skip
 (.exit 0)))
 (.seq
 (.block 1
 (.reg [1, 2, 3, 4] [⟨some 22, .mov (.tmp 4), none⟩,
 ⟨some 23, .fad 0 (.tmp 1), none⟩,
 ⟨some 24, .ld false 1 (.tmp 23), none⟩,
 ⟨some 25, .mov (.tmp 6), none⟩,
 ⟨some 26, .ixa 4 (.tmp 24) (.tmp 25), none⟩,
 ⟨some 27, .ld true 4 (.tmp 26), none⟩,
 ⟨some 28, .bsl 1 46 4 1 [(.agg [(.int .i64 0), (.int .i64 0), (.int .i64 0), (.slice 1 [])])] [(0, (.tmp 27))], none⟩,
 ⟨some 29, .app 2 46 4 48 (.tmp 22) (.tmp 28), none⟩,
 ⟨some 30, .mov (.tmp 5), none⟩,
 ⟨some 31, .mov (.tmp 6), none⟩,
 ⟨some 32, .arith .rem .i64 (.tmp 31) (.cst (.d (.int .i64 16))), none⟩,
 ⟨some 33, .bsl 3 3 1 1 [(.int .i64 0)] [(0, (.tmp 32))], none⟩,
 ⟨some 34, .app 4 3 1 8 (.tmp 30) (.tmp 33), none⟩,
 ⟨some 4, .mov (.tmp 29), none⟩,
 ⟨some 5, .mov (.tmp 34), none⟩]))
 (.reg [] [⟨some 20, .mov (.tmp 6), none⟩,
 ⟨some 21, .arith .add .i64 (.tmp 20) (.cst (.d (.int .i64 1))), none⟩,
 ⟨some 6, .mov (.tmp 21), none⟩])))))))))))
 (.seq
 (.reg [] [⟨some 35, .mov (.tmp 4), none⟩,
 ⟨some 36, .mov (.tmp 5), none⟩,
 ⟨some 2, .mov (.tmp 35), none⟩,
 ⟨some 3, .mov (.tmp 36), none⟩])
 .ret)))))⟩

/-- kilovar/kilovarref04.Acknowledged -/
def ir42 : AFun := ⟨30, 2, [.cell 4 3 true],
 (.seq
 (.reg [0, 1] [⟨some 2, .box 0 3 (.tmp 0), none⟩,
 ⟨some 4, .alloc 1 [(.nils 4), (.d (.int .i64 0)), (.d (.int .i64 0))], none⟩])
 (.seq
 (.reg [] [⟨some 8, .mov (.tmp 1), none⟩,
 ⟨some 9, .fad 1 (.tmp 2), none⟩,
 ⟨some 10, .ld false 1 (.tmp 9), none⟩,
 ⟨some 11, .arith .rem .i64 (.tmp 10) (.cst (.d (.int .i64 16))), none⟩,
 ⟨some 12, .arith .sub .i64 (.tmp 8) (.tmp 11), none⟩,
 ⟨some 13, .arith .add .i64 (.tmp 12) (.cst (.d (.int .i64 16))), none⟩,
 ⟨some 14, .arith .rem .i64 (.tmp 13) (.cst (.d (.int .i64 16))), none⟩,
 ⟨some 5, .mov (.tmp 14), none⟩])
 (.seq
 (.reg [] [⟨some 16, .ld true 3 (.tmp 2), none⟩,
 ⟨some 17, .call 40 [(.tmp 16)], none⟩,
 ⟨some 15, .mov (.tmp 17), none⟩,
 ⟨some 18, .ext 0 (.tmp 15), none⟩,
 ⟨some 19, .ext 1 (.tmp 15), none⟩,
 ⟨some 6, .mov (.tmp 18), none⟩,
 ⟨some 7, .mov (.tmp 19), none⟩])
 (.seq
 (.seq
 (.reg [] [⟨some 20, .mov (.tmp 5), none⟩,
 ⟨some 21, .mov (.tmp 6), none⟩,
 ⟨some 22, .len (.tmp 21), none⟩,
 ⟨some 23, .cmp .leq (.tmp 20) (.tmp 22), none⟩])
 (.cond (.tmp 23)
 (.reg [] [⟨some 24, .fad 1 (.tmp 2), none⟩,
 ⟨some 25, .ld false 1 (.tmp 24), none⟩,
 ⟨some 26, .mov (.tmp 5), none⟩,
 ⟨some 27, .arith .add .i64 (.tmp 25) (.tmp 26), none⟩,
 ⟨some 28, .fad 1 (.tmp 2), none⟩,
 ⟨none, .st 1 (.tmp 28) (.tmp 27), none⟩])
 .skip))
 (.seq
 (.reg [] [⟨some 29, .ld true 3 (.tmp 2), none⟩,
 ⟨none, .st 3 (.tmp 4) (.tmp 29), none⟩])
 .ret)))))⟩

/-- kilovar/link.Acknowledged -/
def ir35 : AFun := ⟨26, 3, [.cell 4 3 true, .tmp 5],
 (.seq
 (.reg [0, 1] [⟨some 2, .cbx 0 3 (.tmp 0), none⟩,
 ⟨some 4, .alloc 1 [(.nils 4), (.d (.int .i64 0)), (.d (.int .i64 0))], none⟩,
 ⟨some 5, .mov (.cst (.d (.int .i64 0))), none⟩])
 (.seq
 (.seq
 (.reg [2] [⟨some 7, .ld true 3 (.tmp 2), none⟩,
 ⟨some 8, .call 43 [(.tmp 7)], none⟩,
 ⟨some 9, .mov (.tmp 1), none⟩,
 ⟨some 10, .call 82 [(.tmp 9), (.cst (.d (.int .i64 0))), (.cst (.d (.int .i64 15)))], none⟩,
 ⟨some 11, .bsl 2 31 1 2 [(.int .i64 0), (.int .i64 0)] [(0, (.tmp 8)), (1, (.tmp 10))], none⟩,
 ⟨some 12, .call 81 [(.tmp 11)], none⟩,
 ⟨some 6, .mov (.tmp 12), none⟩])
 (.seq
 (.reg [] [⟨some 13, .mov (.tmp 6), none⟩,
 ⟨some 14, .cmp .neq (.tmp 13) (.cst (.d (.int .i64 0))), none⟩])
 (.cond (.tmp 14)
 (.seq
 (.reg [] [⟨some 15, .build [(.nils 4), (.d (.int .i64 0)), (.d (.int .i64 0))] [], none⟩,
 ⟨some 16, .mov (.tmp 6), none⟩,
 ⟨none, .st 3 (.tmp 4) (.tmp 15), none⟩,
 ⟨some 5, .mov (.tmp 16), none⟩])
 .ret)
 .skip)))
 (.seq
 (.regd [] [⟨some 17, .fad 0 (.tmp 2), none⟩,
 ⟨some 18, .ld false 1 (.tmp 17), none⟩,
 ⟨some 19, .call 98 [(.tmp 18)], none⟩,
 ⟨some 20, .ld true 3 (.tmp 2), none⟩,
 ⟨some 21, .mov (.tmp 1), none⟩,
 ⟨some 22, .call 100 [(.tmp 20), (.tmp 21)], none⟩,
 ⟨some 23, .fad 2 (.tmp 2), none⟩,
 ⟨some 24, .ld false 1 (.tmp 23), none⟩,
 ⟨some 25, .build [(.nils 4), (.d (.int .i64 0)), (.d (.int .i64 0))] [(0, 1, (.tmp 19)), (1, 1, (.tmp 22)), (2, 1, (.tmp 24))], none⟩,
 ⟨none, .st 3 (.tmp 4) (.tmp 25), none⟩,
 ⟨some 5, .mov (.cst (.d (.int .i64 0))), none⟩] [(0, 3), (1, 3), (2, 3), (0, 4), (1, 4), (2, 4), (3, 4), (0, 6), (1, 6), (2, 6), (3, 6), (4, 6), (5, 6), (0, 7), (1, 7), (2, 7), (3, 7), (4, 7), (5, 7)])
 .ret)))⟩

/-- kilovar/kilovarref04.Heard -/
def ir41 : AFun := ⟨29, 7, [.cell 6 2 true, .tmp 7],
 (.seq
 (.reg [0, 1, 2] [⟨some 3, .cbx 0 2 (.tmp 0), none⟩,
 ⟨some 4, .cbx 1 4 (.tmp 1), none⟩,
 ⟨some 6, .alloc 2 [(.d (.int .i64 0)), (.nils 4)], none⟩,
 ⟨some 7, .mov (.cst (.d (.int .i64 0))), none⟩])
 (.seq
 (.seq
 (.reg [] [⟨some 8, .mov (.tmp 2), none⟩,
 ⟨some 9, .fad 0 (.tmp 3), none⟩,
 ⟨some 10, .ld false 1 (.tmp 9), none⟩,
 ⟨some 11, .arith .rem .i64 (.tmp 10) (.cst (.d (.int .i64 16))), none⟩,
 ⟨some 12, .cmp .neq (.tmp 8) (.tmp 11), none⟩])
 (.cond (.tmp 12)
 (.seq
 (.reg [] [⟨some 13, .ld true 2 (.tmp 3), none⟩,
 ⟨none, .st 2 (.tmp 6) (.tmp 13), none⟩,
 ⟨some 7, .mov (.cst (.d (.int .i64 0))), none⟩])
 .ret)
 .skip))
 (.seq
 (.seq
 (.reg [] [⟨some 14, .fad 0 (.tmp 3), none⟩,
 ⟨some 15, .ld false 1 (.tmp 14), none⟩,
 ⟨some 16, .cmp .eql (.tmp 15) (.cst (.d (.int .i64 64))), none⟩])
 (.cond (.tmp 16)
 (.seq
 (.reg [] [⟨some 17, .build [(.d (.int .i64 0)), (.nils 4)] [], none⟩,
 ⟨none, .st 2 (.tmp 6) (.tmp 17), none⟩,
 ⟨some 7, .mov (.cst (.d (.int .i64 5))), none⟩])
 .ret)
 .skip))
 (.seq
 (.regd [3, 4, 5, 6] [⟨some 18, .fad 0 (.tmp 3), none⟩,
 ⟨some 19, .ld false 1 (.tmp 18), none⟩,
 ⟨some 20, .arith .add .i64 (.tmp 19) (.cst (.d (.int .i64 1))), none⟩,
 ⟨some 21, .bsl 3 46 4 0 [] [], none⟩,
 ⟨some 22, .fad 1 (.tmp 3), none⟩,
 ⟨some 23, .ld false 1 (.tmp 22), none⟩,
 ⟨some 24, .app 4 46 4 48 (.tmp 21) (.tmp 23), none⟩,
 ⟨some 25, .ld true 4 (.tmp 4), none⟩,
 ⟨some 26, .bsl 5 46 4 1 [(.agg [(.int .i64 0), (.int .i64 0), (.int .i64 0), (.slice 1 [])])] [(0, (.tmp 25))], none⟩,
 ⟨some 27, .app 6 46 4 48 (.tmp 24) (.tmp 26), none⟩,
 ⟨some 28, .build [(.d (.int .i64 0)), (.nils 4)] [(0, 1, (.tmp 20)), (1, 1, (.tmp 27))], none⟩,
 ⟨none, .st 2 (.tmp 6) (.tmp 28), none⟩,
 ⟨some 7, .mov (.cst (.d (.int .i64 0))), none⟩] [(0, 3), (1, 3), (2, 3), (0, 4), (1, 4), (2, 4), (3, 4), (0, 5), (1, 5), (2, 5), (3, 5), (0, 6), (1, 6), (2, 6), (0, 7), (1, 7), (2, 7), (3, 7), (4, 7), (5, 7), (6, 7), (0, 8), (1, 8), (2, 8), (3, 8), (4, 8), (5, 8), (6, 8), (0, 9), (1, 9), (2, 9)])
 .ret))))⟩


theorem chkSn_zero {s : Sn} (h : chkSn s = 0) : checkFrames s.q = 0 ∧ (0 ≤ s.a ∧ s.a ≤ s.q.length) ∧ (1 ≤ s.w ∧ s.w ≤ 8) ∧ s.q.length ≤ 64 := by
  have h := firstOf_zero h
  have h1 := h (checkFrames s.q) (by simp)
  have h2 := within3_zero (h (within3 s.a 0 (frs s.q).length) (by simp))
  have h3 := within3_zero (h (within3 s.w 1 8) (by simp))
  rw [frs_len] at h2
  exact ⟨h1, h2, h3, (checks_zero h1).1⟩
theorem chkRc_zero {r : Rc} (h : chkRc r = 0) : checkFrames r.l = 0 ∧ r.t = r.l.length ∧ r.l.length ≤ 64 := by
  have h := firstOf_zero h
  have h1 := h (checkFrames r.l) (by simp)
  have h2 := h (bif (r.t != ((frs r.l).length : Int)) then 2 else 0) (by simp)
  refine ⟨h1, ?_, (checks_zero h1).1⟩
  cases h3 : (r.t != ((frs r.l).length : Int))
  · rw [frs_len] at h3; simpa using h3
  · rw [h3] at h2; cases h2

def ackN (s : Sn) (ans : Int) : Int := (ans - s.a % 16 + 16) % 16
def acked (s : Sn) (ans : Int) : Int := bif decide (ackN s ans ≤ min s.w (((frs s.q).length : Int) - s.a)) then s.a + ackN s ans else s.a
theorem ackN_in (s : Sn) (ans : Int) : 0 ≤ ackN s ans ∧ ackN s ans < 16 := by unfold ackN; omega
theorem c100 (s : Sn) (ans : Int) (hs : chkSn s = 0) (ha : 0 ≤ ans ∧ ans ≤ 15) : CallDet Tryz.prog 100 [.d s.d, .d (.int .i64 ans)] [.int .i64 (acked s ans)] := by
  obtain ⟨_, h1, h2, h3⟩ := chkSn_zero hs
  have hlen := frs_len s.q
  have hn := ackN_in s ans
  refine call_of_vc (x := ir100) (by kernel_rfl) rfl ?_
  refine ar_rem (by omega) ?_
  refine ar_sub (by omega) ?_
  refine ar_add (by omega) ?_
  refine ar_rem (by omega) ?_
  refine ar_sub (by omega) ?_
  repeat refine And.intro rfl ?_
  refine brk_intro ?_ ?_
  · intro h
    have h : decide (ackN s ans ≤ min s.w (((frs s.q).length : Int) - s.a)) = true := h
    have hA : -9223372036854775808 ≤ s.a + ackN s ans ∧ s.a + ackN s ans ≤ 9223372036854775807 := by omega
    refine ar_add hA ?_
    rw [acked, h]
    exact rfl
  · intro h
    have h : decide (ackN s ans ≤ min s.w (((frs s.q).length : Int) - s.a)) = false := h
    rw [acked, h]
    exact rfl

def sentF (s : Sn) : List Fr := (s.q.drop s.a.toNat).take s.w.toNat
def sentI (s : Sn) : List Int := (List.range (sentF s).length).map fun (j : Nat) => (s.a + (j : Int)) % 16
theorem sentF_len {s : Sn} (hs : chkSn s = 0) : ((sentF s).length : Int) = min ((frs s.q).length : Int) (s.a + s.w) - s.a := by
  obtain ⟨_, h1, h2, h3⟩ := chkSn_zero hs
  rw [frs_len, sentF, List.length_take, List.length_drop]
  omega
theorem sentF_get {s : Sn} {k : Nat} (hk : k < (sentF s).length) : (sentF s)[k]? = s.q[s.a.toNat + k]? := by
  simp only [sentF, List.length_take, List.length_drop] at hk
  rw [sentF, List.getElem?_take, if_pos (by omega), List.getElem?_drop]
theorem c40 (s : Sn) (hs : chkSn s = 0) : CallDet Tryz.prog 40 [.d s.d] [.slice 4 (frs (sentF s)), .slice 1 (ints (sentI s))] := by
  obtain ⟨_, h1, h2, h3⟩ := chkSn_zero hs
  have hlen := frs_len s.q
  have hsl := sentF_len hs
  refine call_of_vc (x := ir40) (by kernel_rfl) rfl ?_
  refine loop_st (fun a : Nat × Int × List Data × List Data => ⟨[(1, .ptr 0 0), (4, .sl 2 a.2.2.1.length), (5, .sl 4 a.2.2.2.length), (6, .d (.int .i64 a.2.1))], [.cbox [.slice 4 (frs s.q), .int .i64 s.a, .int .i64 s.w], .none, .row 46 4 a.2.2.1 false, .none, .row 3 1 a.2.2.2 false]⟩)
    (fun a => ((a.2.2.1 = ((sentF s).take a.1).map Fr.d ∧ a.2.2.2 = (List.range a.1).map fun (j : Nat) => Data.int .i64 ((s.a + (j : Int)) % 16)) ∧ a.1 ≤ (sentF s).length) ∧ a.2.1 = s.a + (a.1 : Int)) (fun a => (sentF s).length - a.1) (0, s.a, [], []) rfl ⟨⟨⟨rfl, rfl⟩, Nat.zero_le _⟩, by show s.a = s.a + ((0 : Nat) : Int); omega⟩ ?_
  rintro ⟨k, i, a1, a2⟩ ⟨⟨⟨i1, i2⟩, i3⟩, i4⟩
  have i1 : a1 = ((sentF s).take k).map Fr.d := i1
  have i2 : a2 = (List.range k).map fun (j : Nat) => Data.int .i64 ((s.a + (j : Int)) % 16) := i2
  have i3 : k ≤ (sentF s).length := i3
  have i4 : i = s.a + (k : Int) := i4
  have l1 : a1.length = k := by rw [i1]; simp; omega
  have l2 : a2.length = k := by rw [i2]; simp
  refine ar_add (by omega) ?_
  repeat refine And.intro rfl ?_
  refine brk_intro ?_ ?_
  · intro h
    have h : i < min ((frs s.q).length : Int) (s.a + s.w) := of_decide_eq_true h
    have hk : k < (sentF s).length := by omega
    refine Exists.elim (⟨_, List.getElem?_eq_getElem hk⟩ : ∃ x, (sentF s)[k]? = some x) fun x hx => ?_
    have hd : (frs s.q)[i.toNat]? = some x.d := by
      rw [sentF_get hk] at hx
      rw [show i.toNat = s.a.toNat + k by omega]
      simp [frs, hx]
    have h0 : 0 ≤ i := by omega
    refine ix_at hd h0 ?_
    repeat refine And.intro rfl ?_
    refine And.intro ⟨rfl, rfl, rfl, ?_, ?_⟩ ?_
    · show (a1.length + 1) * 48 ≤ 2 ^ 47
      omega
    · show a1.length + 1 ≤ 2 ^ 47
      omega
    have hr : 0 ≤ i ∧ (1 : Int) ≤ 16 := by omega
    refine ar_rem hr ?_
    repeat refine And.intro rfl ?_
    refine And.intro ⟨rfl, rfl, rfl, ?_, ?_⟩ ?_
    · show (a2.length + 1) * 8 ≤ 2 ^ 47
      omega
    · show a2.length + 1 ≤ 2 ^ 47
      omega
    have hA : -9223372036854775808 ≤ i + 1 ∧ i + 1 ≤ 9223372036854775807 := by omega
    refine ar_add hA ?_
    have e1 : a1 ++ [x.d] = ((sentF s).take (k + 1)).map Fr.d := by rw [take_map_succ _ hx, i1]
    have e2 : a2 ++ [Data.int .i64 (i % 16)] = (List.range (k + 1)).map fun (j : Nat) => Data.int .i64 ((s.a + (j : Int)) % 16) := by
      rw [List.range_succ, List.map_append, i2, i4]; rfl
    exact ⟨(k + 1, i + 1, a1 ++ [x.d], a2 ++ [Data.int .i64 (i % 16)]), ⟨⟨⟨⟨e1, e2⟩, hk⟩, by show i + 1 = s.a + ((k + 1 : Nat) : Int); omega⟩, by show (sentF s).length - (k + 1) < (sentF s).length - k; omega⟩, rfl⟩
  · intro h
    have h : ¬ i < min ((frs s.q).length : Int) (s.a + s.w) := of_decide_eq_false h
    have hk : k = (sentF s).length := by omega
    have e1 : frs (sentF s) = a1 := by rw [i1, hk, List.take_length]; rfl
    have e2 : ints (sentI s) = a2 := by rw [i2, hk, ints, sentI, List.map_map]; rfl
    repeat refine And.intro rfl ?_
    rw [e1, e2]
    exact rfl

theorem c42 (s : Sn) (ans : Int) (hs : chkSn s = 0) (ha : 0 ≤ ans ∧ ans ≤ 15) : CallDet Tryz.prog 42 [.d s.d, .d (.int .i64 ans)] [(⟨s.q, acked s ans, s.w⟩ : Sn).d] := by
  obtain ⟨_, h1, h2, h3⟩ := chkSn_zero hs
  have hlen := frs_len s.q
  have hsl := sentF_len hs
  have hn := ackN_in s ans
  refine call_of_vc (x := ir42) (by kernel_rfl) rfl ?_
  refine ar_rem (by omega) ?_
  refine ar_sub (by omega) ?_
  refine ar_add (by omega) ?_
  refine ar_rem (by omega) ?_
  refine Exists.intro _ (And.intro (c40 s hs) ?_)
  repeat refine And.intro rfl ?_
  have ea : acked s ans = bif decide (ackN s ans ≤ ((frs (sentF s)).length : Int)) then s.a + ackN s ans else s.a := by
    rw [acked, frs_len (sentF s), hsl, show min ((frs s.q).length : Int) (s.a + s.w) - s.a = min s.w (((frs s.q).length : Int) - s.a) by omega]
  refine brk_intro ?_ ?_
  · intro h
    have h : decide (ackN s ans ≤ ((frs (sentF s)).length : Int)) = true := h
    have hA : -9223372036854775808 ≤ s.a + ackN s ans ∧ s.a + ackN s ans ≤ 9223372036854775807 := by omega
    refine ar_add hA ?_
    rw [ea, h]
    exact rfl
  · intro h
    have h : decide (ackN s ans ≤ ((frs (sentF s)).length : Int)) = false := h
    rw [ea, h]
    exact rfl

def ackE (s : Sn) (ans : Int) : Int := firstOf [chkSn s, within3 ans 0 15]
def ackS (s : Sn) (ans : Int) : Sn := match ackE s ans != 0 with | true => ⟨[], 0, 0⟩ | false => ⟨s.q, acked s ans, s.w⟩
theorem ackE_zero {s : Sn} {ans : Int} (h : ackE s ans = 0) : chkSn s = 0 ∧ 0 ≤ ans ∧ ans ≤ 15 :=
  ⟨firstOf_zero h _ (by simp), within3_zero (firstOf_zero h _ (by simp))⟩
theorem c35 (s : Sn) (ans : Int) (hl : s.q.length ≤ 1048576) : CallDet Tryz.prog 35 [.d s.d, .d (.int .i64 ans)] [(ackS s ans).d, .int .i64 (ackE s ans)] := by
  refine call_of_vc (x := ir35) (by kernel_rfl) rfl ?_
  refine Exists.intro _ (And.intro (c43 s hl) ?_)
  refine Exists.intro _ (And.intro (c82 ans 0 15) ?_)
  repeat refine And.intro rfl ?_
  refine Exists.intro _ (And.intro (c81 [chkSn s, within3 ans 0 15] (by simp)) ?_)
  refine And.intro rfl ?_
  refine brk_intro ?_ ?_
  · intro h
    have h : (ackE s ans != 0) = true := h
    rw [ackS, h]
    exact rfl
  · intro h
    have h : (ackE s ans != 0) = false := h
    have h0 : ackE s ans = 0 := by simpa using h
    obtain ⟨k1, k2⟩ := ackE_zero h0
    have k3 := (checks_zero (chkSn_zero k1).1)
    refine Exists.intro _ (And.intro (c98 s.q (by omega) (fun f hf => by have := (check_zero (k3.2 f hf)).2.2.2; omega)) ?_)
    refine Exists.intro _ (And.intro (c100 s ans k1 k2) ?_)
    repeat refine And.intro rfl ?_
    rw [ackS, h, h0]
    exact rfl

def hearR (r : Rc) (f : Fr) (n : Int) : Rc × Int := match n != r.t % 16 with
  | true => (r, 0)
  | false => match r.t == 64 with
    | true => (⟨0, []⟩, 5)
    | false => (⟨r.t + 1, r.l ++ [f]⟩, 0)
theorem c41 (r : Rc) (f : Fr) (n : Int) (hr : chkRc r = 0) : CallDet Tryz.prog 41 [.d r.d, .d f.d, .d (.int .i64 n)] [(hearR r f n).1.d, .int .i64 (hearR r f n).2] := by
  obtain ⟨_, h1, h2⟩ := chkRc_zero hr
  have hlen := frs_len r.l
  refine call_of_vc (x := ir41) (by kernel_rfl) rfl ?_
  refine ar_rem (by omega) ?_
  refine And.intro rfl ?_
  refine brk_intro ?_ ?_
  · intro h
    have h : (n != r.t % 16) = true := h
    rw [hearR, h]
    exact rfl
  · intro h
    have h : (n != r.t % 16) = false := h
    refine And.intro rfl ?_
    refine brk_intro ?_ ?_
    · intro h3
      have h3 : (r.t == 64) = true := h3
      rw [hearR, h, h3]
      exact rfl
    · intro h3
      have h3 : (r.t == 64) = false := h3
      refine ar_add (by omega) ?_
      repeat refine And.intro rfl ?_
      refine And.intro ⟨rfl, rfl, rfl, ?_, ?_⟩ ?_
      · show (0 + (frs r.l).length) * 48 ≤ 2 ^ 47
        omega
      · show 0 + (frs r.l).length ≤ 2 ^ 47
        omega
      repeat refine And.intro rfl ?_
      refine And.intro ⟨rfl, rfl, rfl, ?_, ?_⟩ ?_
      · show ((frs r.l).length + 1) * 48 ≤ 2 ^ 47
        omega
      · show (frs r.l).length + 1 ≤ 2 ^ 47
        omega
      repeat refine And.intro rfl ?_
      have e : (⟨r.t + 1, r.l ++ [f]⟩ : Rc).d = .agg [.int .i64 (r.t + 1), .slice 4 (frs r.l ++ [f.d])] := by simp [Rc.d, frs]
      rw [hearR, h, h3]
      exact (congrArg (fun z => resV [z, Data.int .i64 0]) e).symm
end Vc

set_option maxRecDepth 10000
namespace Vc
open Go Go.Proofs
/-- kilovar/link.mapped[kilovar/link.Frame,kilovar/link.Frame] -/
def ir133i : AFun := ⟨22, 3, [.tmp 4],
 (.seq
 (.reg [] [⟨some 4, .mov (.cst (.nils 4)), none⟩])
 (.seq
 (.reg [] [⟨some 5, .mov (.cst (.nils 4)), none⟩])
 (.seq
 (.seq
 (.reg [] [⟨some 8, .mov (.tmp 0), none⟩,
 ⟨some 9, .len (.tmp 8), none⟩,
 ⟨some 10, .mov (.cst (.d (.int .i64 0))), none⟩])
 (.post [5] [0, 1, 2]
 (.block 0
 (.asrow 2 38 4 5
 (.keep [1, 5, 8, 9, 10] []
 (.loop
 (.post [1, 5, 8, 9, 10] [0, 1, 2]
 (.seq
 (.reg [] [⟨some 11, .cmp .lss (.tmp 10) (.tmp 9), none⟩])
 (.seq
 (.cond (.tmp 11)
 .skip
 (.exit 0))
 (.seq
 (.block 1
 (.seq
 (.reg [0] [⟨some 12, .ixa 4 (.tmp 8) (.tmp 10), none⟩,
 ⟨some 13, .ld true 4 (.tmp 12), none⟩,
 ⟨some 7, .alloc 0 [(.d (.int .i64 0)), (.d (.int .i64 0)), (.d (.int .i64 0)), (.nils 1)], none⟩,
 ⟨none, .st 4 (.tmp 7) (.tmp 13), none⟩])
 (.reg [1, 2] [⟨some 14, .mov (.tmp 5), none⟩,
 ⟨some 15, .mov (.tmp 1), none⟩,
 ⟨some 16, .ld true 4 (.tmp 7), none⟩,
 ⟨some 17, .callv (.tmp 15) [(.tmp 16)], none⟩,
 ⟨some 18, .bsl 1 38 4 1 [(.agg [(.int .i64 0), (.int .i64 0), (.int .i64 0), (.slice 1 [])])] [(0, (.tmp 17))], none⟩,
 ⟨some 19, .app 2 38 4 48 (.tmp 14) (.tmp 18), none⟩,
 ⟨some 5, .mov (.tmp 19), none⟩])))
 (.reg [] [⟨some 20, .arith .add .i64 (.tmp 10) (.cst (.d (.int .i64 1))), none⟩,
 ⟨some 10, .mov (.tmp 20), none⟩])))))))))))
 (.seq
 (.reg [] [⟨some 21, .mov (.tmp 5), none⟩,
 ⟨some 4, .mov (.tmp 21), none⟩])
 .ret))))⟩

/-- kilovar/link.owned -/
def ir98i : AFun := ⟨12, 1, [.tmp 2],
 (.seq
 (.reg [] [⟨some 2, .mov (.cst (.nils 4)), none⟩])
 (.seq
 (.reg [0] [⟨some 4, .mov (.tmp 0), none⟩,
 ⟨some 5, .len (.tmp 4), none⟩,
 ⟨some 6, .msl 0 38 4 48 (.agg [(.int .i64 0), (.int .i64 0), (.int .i64 0), (.slice 1 [])]) (.tmp 5), none⟩,
 ⟨some 3, .mov (.tmp 6), none⟩])
 (.seq
 (.reg [] [⟨some 7, .mov (.tmp 3), none⟩,
 ⟨some 8, .mov (.tmp 0), none⟩,
 ⟨some 9, .copy 4 (.tmp 7) (.tmp 8), none⟩])
 (.seq
 (.reg [] [⟨some 10, .mov (.tmp 3), none⟩,
 ⟨some 11, .calli 133 [(.tmp 10), (.cst (.d (.fn (.func 84) [])))], none⟩,
 ⟨some 2, .mov (.tmp 11), none⟩])
 .ret))))⟩

/-- (kilovar/link.Receiver).with -/
def ir99 : AFun := ⟨17, 12, [.cell 4 2 true],
 (.seq
 (.reg [0, 1, 2] [⟨some 2, .cbx 0 2 (.tmp 0), none⟩,
 ⟨some 3, .cbx 1 4 (.tmp 1), none⟩,
 ⟨some 4, .alloc 2 [(.d (.int .i64 0)), (.nils 4)], none⟩])
 (.seq
 (.regd [3, 4] [⟨some 6, .fad 1 (.tmp 2), none⟩,
 ⟨some 7, .ld false 1 (.tmp 6), none⟩,
 ⟨some 8, .calli 98 [(.tmp 7)], none⟩,
 ⟨some 9, .ld true 4 (.tmp 3), none⟩,
 ⟨some 10, .call 84 [(.tmp 9)], none⟩,
 ⟨some 11, .bsl 3 38 4 1 [(.agg [(.int .i64 0), (.int .i64 0), (.int .i64 0), (.slice 1 [])])] [(0, (.tmp 10))], none⟩,
 ⟨some 12, .app 4 38 4 48 (.tmp 8) (.tmp 11), none⟩,
 ⟨some 5, .mov (.tmp 12), none⟩] [(0, 3), (1, 3), (2, 3)])
 (.seq
 (.reg [] [⟨some 13, .mov (.tmp 5), none⟩,
 ⟨some 14, .len (.tmp 13), none⟩,
 ⟨some 15, .mov (.tmp 5), none⟩,
 ⟨some 16, .build [(.d (.int .i64 0)), (.nils 4)] [(0, 1, (.tmp 14)), (1, 1, (.tmp 15))], none⟩,
 ⟨none, .st 2 (.tmp 4) (.tmp 16), none⟩])
 .ret)))⟩


theorem c99 (r : Rc) (f : Fr) (hl : r.l.length ≤ 1000) (hb : ∀ f ∈ r.l, f.b.length ≤ 1048576) (hf : f.b.length ≤ 1048576) :
    CallDet Tryz.prog 99 [.d r.d, .d f.d] [(⟨(r.l.length : Int) + 1, r.l ++ [f]⟩ : Rc).d] := by
  have hlen := frs_len r.l
  refine call_of_vc (x := ir99) (by kernel_rfl) rfl ?_
  let M : List Data := List.take ((frs r.l).length : Int).toNat (frs r.l) ++ List.drop (frs r.l).length (List.replicate ((frs r.l).length : Int).toNat (Data.agg [.int .i64 0, .int .i64 0, .int .i64 0, .slice 1 []]))
  have hM : M = frs r.l := by simp [M]
  have hn : ((frs r.l).length : Int).toNat = (frs r.l).length := by omega
  refine Exists.intro (.sl 8 (frs r.l).length) (Exists.intro [(5, .row 38 4 M false), (8, .row 38 4 (frs r.l) false)] (And.intro ?_ ?_))
  · refine callIn_of_vc (x := ir98i) 5 (by kernel_rfl) rfl rfl rfl ?_
    refine And.intro ⟨by omega, ?_, ?_⟩ ?_
    · show ((frs r.l).length : Int) * 48 ≤ 2 ^ 47
      omega
    · show ((frs r.l).length : Int) ≤ 2 ^ 47
      omega
    refine Exists.intro _ (And.intro ⟨rfl, rfl, List.length_replicate, rfl⟩ ?_)
    refine Exists.intro (.sl 8 (frs r.l).length) (Exists.intro [(8, .row 38 4 (frs r.l) false)] (And.intro ?_ ?_))
    · refine callIn_of_vc (P := Tryz.prog) (x := ir133i) 6 (by kernel_rfl) rfl rfl rfl ?_
      have hML : M.length = ((frs r.l).length : Int).toNat := by rw [hM, hn]
      refine And.intro hML ?_
      refine loop_st (fun a : Nat × List Data => ⟨[(1, .d (.fn (.func 84) [])), (5, .sl 8 a.2.length), (8, .sl 5 ((frs r.l).length : Int).toNat), (9, .d (.int .i64 (M.length : Int))), (10, .d (.int .i64 a.1))], [.cbox [.int .i64 r.t, .slice 4 (frs r.l)], .cbox [.int .i64 f.m, .int .i64 f.p, .int .i64 f.n, .slice 1 (f.b.map byt)], .box [.d (.int .i64 0), .nils 4], .none, .none, .row 38 4 M false, .none, .none, .row 38 4 a.2 false, .none, .none, .none]⟩)
        (fun a => a.2 = (r.l.take a.1).map Fr.d) (fun a => r.l.length - a.1) (0, []) rfl rfl ?_
      rintro ⟨k, acc⟩ hk
      have hk : acc = (r.l.take k).map Fr.d := hk
      refine And.intro rfl ?_
      refine brk_intro ?_ ?_
      · intro h
        have h : (k : Int) < (M.length : Int) := of_decide_eq_true h
        refine Exists.elim (⟨_, List.getElem?_eq_getElem (by omega)⟩ : ∃ x, r.l[k]? = some x) fun x hx => ?_
        have hd : (frs r.l)[(k : Int).toNat]? = some x.d := by simp [frs, hx]
        have hacc : acc.length = k := by have := congrArg List.length hk; simp at this; omega
        have hdM : M[(k : Int).toNat]? = some x.d := by rw [hM]; exact hd
        have hlt : (k : Int) < (((frs r.l).length : Int).toNat : Int) := by rw [← hML]; exact h
        refine And.intro ⟨rfl, hML, by omega, hlt⟩ ?_
        refine And.intro hML ?_
        refine Exists.intro x.d (And.intro hdM ?_)
        refine Exists.intro _ (And.intro (c84 x (hb x (List.mem_of_getElem? hx))) ?_)
        repeat refine And.intro rfl ?_
        refine And.intro ⟨rfl, rfl, rfl, ?_, ?_⟩ ?_
        · show (acc.length + 1) * 48 ≤ 2 ^ 47
          omega
        · show acc.length + 1 ≤ 2 ^ 47
          omega
        refine ar_add (by omega) ?_
        refine ⟨(k + 1, acc ++ [x.d]), ⟨?_, by show r.l.length - (k + 1) < r.l.length - k; omega⟩, rfl⟩
        show acc ++ [x.d] = (r.l.take (k + 1)).map Fr.d
        rw [take_map_succ _ hx, hk]
      · intro h
        have h : ¬ (k : Int) < (M.length : Int) := of_decide_eq_false h
        have e : acc = frs r.l := by
          rw [hML] at h
          rw [hk, List.take_of_length_le (by omega)]; rfl
        subst e
        exact ⟨rfl, rfl⟩
    · exact ⟨rfl, rfl⟩
  · refine Exists.intro _ (And.intro (c84 f hf) ?_)
    repeat refine And.intro rfl ?_
    refine And.intro ⟨rfl, rfl, rfl, ?_, ?_⟩ ?_
    · show ((frs r.l).length + 1) * 48 ≤ 2 ^ 47
      omega
    · show (frs r.l).length + 1 ≤ 2 ^ 47
      omega
    repeat refine And.intro rfl ?_
    have e : (⟨(r.l.length : Int) + 1, r.l ++ [f]⟩ : Rc).d = .agg [.int .i64 (((frs r.l ++ [f.d]).length : Nat) : Int), .slice 4 (frs r.l ++ [f.d])] := by simp [Rc.d, frs]
    exact (congrArg (fun z => resV [z]) e).symm
end Vc

set_option maxRecDepth 10000
namespace Vc
open Go Go.Proofs
/-- kilovar/link.Heard -/
def ir33 : AFun := ⟨48, 5, [.cell 6 2 true, .tmp 7, .tmp 8],
 (.seq
 (.reg [0, 1, 2] [⟨some 3, .cbx 0 2 (.tmp 0), none⟩,
 ⟨some 4, .cbx 1 4 (.tmp 1), none⟩,
 ⟨some 6, .alloc 2 [(.d (.int .i64 0)), (.nils 4)], none⟩,
 ⟨some 7, .mov (.cst (.d (.int .i64 0))), none⟩,
 ⟨some 8, .mov (.cst (.d (.int .i64 0))), none⟩])
 (.seq
 (.seq
 (.regd [3] [⟨some 11, .ld true 2 (.tmp 3), none⟩,
 ⟨some 12, .call 44 [(.tmp 11)], none⟩,
 ⟨some 13, .ld true 4 (.tmp 4), none⟩,
 ⟨some 14, .call 30 [(.tmp 13)], none⟩,
 ⟨some 15, .mov (.tmp 2), none⟩,
 ⟨some 16, .call 82 [(.tmp 15), (.cst (.d (.int .i64 0))), (.cst (.d (.int .i64 15)))], none⟩,
 ⟨some 17, .ld true 2 (.tmp 3), none⟩,
 ⟨some 18, .mov (.tmp 2), none⟩,
 ⟨some 19, .call 97 [(.tmp 17), (.tmp 18)], none⟩,
 ⟨some 20, .mov (.tmp 19), none⟩,
 ⟨some 21, .fad 0 (.tmp 3), some (20, true)⟩,
 ⟨some 22, .ld false 1 (.tmp 21), some (20, true)⟩,
 ⟨some 23, .cmp .eql (.tmp 22) (.cst (.d (.int .i64 64))), some (20, true)⟩,
 ⟨some 24, .pick (.tmp 20) (.tmp 23) (.cst (.d (.bool false))), none⟩,
 ⟨some 25, .call 83 [(.tmp 24), (.cst (.d (.int .i64 5)))], none⟩,
 ⟨some 26, .bsl 3 31 1 4 [(.int .i64 0), (.int .i64 0), (.int .i64 0), (.int .i64 0)] [(0, (.tmp 12)), (1, (.tmp 14)), (2, (.tmp 16)), (3, (.tmp 25))], none⟩,
 ⟨some 27, .call 81 [(.tmp 26)], none⟩,
 ⟨some 9, .mov (.tmp 27), none⟩] [(0, 2), (1, 2), (0, 4), (1, 4), (2, 4), (3, 4), (0, 6), (1, 6), (2, 6), (3, 6), (4, 6), (5, 6), (0, 7), (1, 7), (2, 7), (3, 7), (4, 7), (5, 7), (6, 7)])
 (.seq
 (.reg [] [⟨some 28, .mov (.tmp 9), none⟩,
 ⟨some 29, .cmp .neq (.tmp 28) (.cst (.d (.int .i64 0))), none⟩])
 (.cond (.tmp 29)
 (.seq
 (.reg [] [⟨some 30, .build [(.d (.int .i64 0)), (.nils 4)] [], none⟩,
 ⟨some 31, .mov (.tmp 9), none⟩,
 ⟨none, .st 2 (.tmp 6) (.tmp 30), none⟩,
 ⟨some 7, .mov (.cst (.d (.int .i64 0))), none⟩,
 ⟨some 8, .mov (.tmp 31), none⟩])
 .ret)
 .skip)))
 (.seq
 (.regd [4] [⟨some 32, .fad 0 (.tmp 3), none⟩,
 ⟨some 33, .ld false 1 (.tmp 32), none⟩,
 ⟨some 34, .fad 1 (.tmp 3), none⟩,
 ⟨some 35, .ld false 1 (.tmp 34), none⟩,
 ⟨some 36, .call 98 [(.tmp 35)], none⟩,
 ⟨some 37, .build [(.d (.int .i64 0)), (.nils 4)] [(0, 1, (.tmp 33)), (1, 1, (.tmp 36))], none⟩,
 ⟨some 10, .alloc 4 [(.d (.int .i64 0)), (.nils 4)], none⟩,
 ⟨none, .st 2 (.tmp 10) (.tmp 37), none⟩] [(0, 2), (1, 2), (0, 3), (1, 3), (0, 4), (1, 4), (0, 6), (1, 6), (2, 6), (3, 6), (4, 6), (5, 6)])
 (.seq
 (.seq
 (.reg [] [⟨some 38, .ld true 2 (.tmp 3), none⟩,
 ⟨some 39, .mov (.tmp 2), none⟩,
 ⟨some 40, .call 97 [(.tmp 38), (.tmp 39)], none⟩])
 (.cond (.tmp 40)
 (.reg [] [⟨some 41, .ld true 2 (.tmp 3), none⟩,
 ⟨some 42, .ld true 4 (.tmp 4), none⟩,
 ⟨some 43, .call 99 [(.tmp 41), (.tmp 42)], none⟩,
 ⟨none, .st 2 (.tmp 10) (.tmp 43), none⟩])
 .skip))
 (.seq
 (.regd [] [⟨some 44, .ld true 2 (.tmp 10), none⟩,
 ⟨some 45, .fad 0 (.tmp 10), none⟩,
 ⟨some 46, .ld false 1 (.tmp 45), none⟩,
 ⟨some 47, .arith .rem .i64 (.tmp 46) (.cst (.d (.int .i64 16))), none⟩,
 ⟨none, .st 2 (.tmp 6) (.tmp 44), none⟩,
 ⟨some 7, .mov (.tmp 47), none⟩,
 ⟨some 8, .mov (.cst (.d (.int .i64 0))), none⟩] [(0, 1), (0, 2), (0, 3), (1, 4), (2, 4), (3, 4)])
 .ret)))))⟩


def hearE (r : Rc) (f : Fr) (n : Int) : Int := firstOf [chkRc r, f.check, within3 n 0 15, bif (n == r.t.tmod 16) && (r.t == 64) then 5 else 0]
def hearP (r : Rc) (f : Fr) (n : Int) : Rc × Int × Int := match hearE r f n != 0 with
  | true => (⟨0, []⟩, 0, hearE r f n)
  | false => match n == r.t.tmod 16 with
    | true => (⟨(r.l.length : Int) + 1, r.l ++ [f]⟩, ((r.l.length : Int) + 1) % 16, 0)
    | false => (r, r.t % 16, 0)
theorem hp {r : Rc} {f : Fr} {n : Int} {p : Rc × Int × Int} (h : hearP r f n = p) : resV [p.1.d, .int .i64 p.2.1, .int .i64 p.2.2] = resV [(hearP r f n).1.d, .int .i64 (hearP r f n).2.1, .int .i64 (hearP r f n).2.2] := by rw [h]
theorem hearE_zero {r : Rc} {f : Fr} {n : Int} (h : hearE r f n = 0) : chkRc r = 0 ∧ f.check = 0 :=
  ⟨firstOf_zero h _ (by simp), firstOf_zero h _ (by simp)⟩
theorem c33 (r : Rc) (f : Fr) (n : Int) (hl : r.l.length ≤ 1048576) : CallDet Tryz.prog 33 [.d r.d, .d f.d, .d (.int .i64 n)] [(hearP r f n).1.d, .int .i64 (hearP r f n).2.1, .int .i64 (hearP r f n).2.2] := by
  have hlen := frs_len r.l
  refine call_of_vc (x := ir33) (by kernel_rfl) rfl ?_
  refine Exists.intro _ (And.intro (c44 r hl) ?_)
  refine Exists.intro _ (And.intro (c30 f.m f.p f.n f.b) ?_)
  refine Exists.intro _ (And.intro (c82 n 0 15) ?_)
  refine Exists.intro _ (And.intro (c97 r n) ?_)
  have rest : ∀ (x : Bool), x = ((n == r.t.tmod 16) && (r.t == 64)) → CallDet Tryz.prog 81 [.d (.slice 1 (ints [chkRc r, f.check, within3 n 0 15, bif x then 5 else 0]))] [.int .i64 (hearE r f n)] := fun x hx => by
    rw [hearE, ← hx]
    exact c81 [chkRc r, f.check, within3 n 0 15, bif x then 5 else 0] (by simp)
  refine brk_intro ?_ ?_
  · intro h
    have h : (n == r.t.tmod 16) = true := h
    repeat refine And.intro rfl ?_
    refine Exists.intro _ (And.intro (c83 _ _) ?_)
    repeat refine And.intro rfl ?_
    refine Exists.intro _ (And.intro (rest (r.t == 64) (by rw [h]; rfl)) ?_)
    refine And.intro rfl ?_
    refine brk_intro ?_ ?_
    · intro h2
      have h2 : (hearE r f n != 0) = true := h2
      exact hp (p := (⟨0, []⟩, 0, hearE r f n)) (by rw [hearP, h2])
    · intro h2
      have h2 : (hearE r f n != 0) = false := h2
      have h0 : hearE r f n = 0 := by simpa using h2
      have k1 := chkRc_zero (hearE_zero h0).1
      have k2 := (checks_zero k1.1).2
      have k3 : ∀ g ∈ r.l, g.b.length ≤ 1048576 := fun g hg => by have := (check_zero (k2 g hg)).2.2.2; omega
      have k4 : f.b.length ≤ 1048576 := by have := (check_zero (hearE_zero h0).2).2.2.2; omega
      refine Exists.intro _ (And.intro (c98 r.l (by omega) k3) ?_)
      repeat refine And.intro rfl ?_
      refine Exists.intro _ (And.intro (c97 r n) ?_)
      refine brk_intro (fun _ => ?_) (fun h4 => absurd (h4.symm.trans h) Bool.false_ne_true)
      refine Exists.intro _ (And.intro (c99 r f (by omega) k3 k4) ?_)
      have hA : 0 ≤ (r.l.length : Int) + 1 ∧ (1 : Int) ≤ 16 := by omega
      refine ar_rem hA ?_
      exact hp (p := (⟨(r.l.length : Int) + 1, r.l ++ [f]⟩, ((r.l.length : Int) + 1) % 16, 0)) (by rw [hearP, h2, h])
  · intro h
    have h : (n == r.t.tmod 16) = false := h
    repeat refine And.intro rfl ?_
    refine Exists.intro _ (And.intro (c83 _ _) ?_)
    repeat refine And.intro rfl ?_
    refine Exists.intro _ (And.intro (rest false (by rw [h]; rfl)) ?_)
    refine And.intro rfl ?_
    refine brk_intro ?_ ?_
    · intro h2
      have h2 : (hearE r f n != 0) = true := h2
      exact hp (p := (⟨0, []⟩, 0, hearE r f n)) (by rw [hearP, h2])
    · intro h2
      have h2 : (hearE r f n != 0) = false := h2
      have h0 : hearE r f n = 0 := by simpa using h2
      have k1 := chkRc_zero (hearE_zero h0).1
      have k2 := (checks_zero k1.1).2
      have k3 : ∀ g ∈ r.l, g.b.length ≤ 1048576 := fun g hg => by have := (check_zero (k2 g hg)).2.2.2; omega
      refine Exists.intro _ (And.intro (c98 r.l (by omega) k3) ?_)
      repeat refine And.intro rfl ?_
      refine Exists.intro _ (And.intro (c97 r n) ?_)
      refine brk_intro (fun h4 => absurd (h.symm.trans h4) Bool.false_ne_true) (fun _ => ?_)
      refine ar_rem (by omega) ?_
      exact hp (p := (r, r.t % 16, 0)) (by rw [hearP, h2, h])
end Vc

