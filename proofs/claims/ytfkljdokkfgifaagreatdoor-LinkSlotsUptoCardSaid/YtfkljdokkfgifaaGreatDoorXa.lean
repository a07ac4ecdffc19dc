import Derived.Test.YtfkljdokkfgifaaGreatDoorWe
import Derived.Test.YtfkljdokkfgifaaGreatDoorWf
set_option linter.unusedSectionVars false
set_option linter.unusedVariables false
set_option linter.unusedSimpArgs false
set_option maxRecDepth 10000
namespace Vc
open Go Go.Proofs
/-- kilovar/kilovarlaw04.sender -/
def ir32 : AFun := ⟨11, 2, [.cell 2 3 true],
 (.seq
 (.reg [0, 1] [⟨some 1, .cbx 0 3 (.tmp 0), none⟩,
 ⟨some 2, .alloc 1 [(.nils 4), (.d (.int .i64 0)), (.d (.int .i64 0))], none⟩])
 (.seq
 (.regd [] [⟨some 3, .fad 0 (.tmp 1), none⟩,
 ⟨some 4, .ld false 1 (.tmp 3), none⟩,
 ⟨some 5, .call 15 [(.tmp 4)], none⟩,
 ⟨some 6, .fad 1 (.tmp 1), none⟩,
 ⟨some 7, .ld false 1 (.tmp 6), none⟩,
 ⟨some 8, .fad 2 (.tmp 1), none⟩,
 ⟨some 9, .ld false 1 (.tmp 8), none⟩,
 ⟨some 10, .build [(.nils 4), (.d (.int .i64 0)), (.d (.int .i64 0))] [(0, 1, (.tmp 5)), (1, 1, (.tmp 7)), (2, 1, (.tmp 9))], none⟩,
 ⟨none, .st 3 (.tmp 2) (.tmp 10), none⟩] [(0, 3), (1, 3), (2, 3), (0, 4), (1, 4), (2, 4), (0, 5), (1, 5), (2, 5), (3, 5), (4, 5), (0, 6), (1, 6), (2, 6), (3, 6), (4, 6)])
 .ret))⟩

/-- kilovar/kilovarlaw04.receiver -/
def ir34 : AFun := ⟨9, 2, [.cell 2 2 true],
 (.seq
 (.reg [0, 1] [⟨some 1, .cbx 0 2 (.tmp 0), none⟩,
 ⟨some 2, .alloc 1 [(.d (.int .i64 0)), (.nils 4)], none⟩])
 (.seq
 (.regd [] [⟨some 3, .fad 0 (.tmp 1), none⟩,
 ⟨some 4, .ld false 1 (.tmp 3), none⟩,
 ⟨some 5, .fad 1 (.tmp 1), none⟩,
 ⟨some 6, .ld false 1 (.tmp 5), none⟩,
 ⟨some 7, .call 15 [(.tmp 6)], none⟩,
 ⟨some 8, .build [(.d (.int .i64 0)), (.nils 4)] [(0, 1, (.tmp 4)), (1, 1, (.tmp 7))], none⟩,
 ⟨none, .st 2 (.tmp 2) (.tmp 8), none⟩] [(0, 2), (1, 2), (0, 3), (1, 3), (0, 4), (1, 4)])
 .ret))⟩

/-- kilovar/kilovarref04.CheckSender -/
def ir36 : AFun := ⟨17, 2, [.tmp 2],
 (.seq
 (.reg [0] [⟨some 1, .cbx 0 3 (.tmp 0), none⟩,
 ⟨some 2, .mov (.cst (.d (.int .i64 0))), none⟩])
 (.seq
 (.regd [1] [⟨some 3, .fad 0 (.tmp 1), none⟩,
 ⟨some 4, .ld false 1 (.tmp 3), none⟩,
 ⟨some 5, .call 18 [(.tmp 4)], none⟩,
 ⟨some 6, .fad 1 (.tmp 1), none⟩,
 ⟨some 7, .ld false 1 (.tmp 6), none⟩,
 ⟨some 8, .fad 0 (.tmp 1), none⟩,
 ⟨some 9, .ld false 1 (.tmp 8), none⟩,
 ⟨some 10, .len (.tmp 9), none⟩,
 ⟨some 11, .call 62 [(.tmp 7), (.cst (.d (.int .i64 0))), (.tmp 10)], none⟩,
 ⟨some 12, .fad 2 (.tmp 1), none⟩,
 ⟨some 13, .ld false 1 (.tmp 12), none⟩,
 ⟨some 14, .call 62 [(.tmp 13), (.cst (.d (.int .i64 1))), (.cst (.d (.int .i64 8)))], none⟩,
 ⟨some 15, .bsl 1 3 1 3 [(.int .i64 0), (.int .i64 0), (.int .i64 0)] [(0, (.tmp 5)), (1, (.tmp 11)), (2, (.tmp 14))], none⟩,
 ⟨some 16, .call 89 [(.tmp 15)], none⟩,
 ⟨some 2, .mov (.tmp 16), none⟩] [(0, 3), (1, 3), (2, 3), (0, 4), (1, 4), (2, 4), (0, 5), (1, 5), (2, 5), (3, 5), (4, 5), (0, 6), (1, 6), (2, 6), (3, 6), (4, 6), (0, 7), (1, 7), (2, 7), (3, 7), (4, 7), (0, 9), (1, 9), (2, 9), (3, 9), (4, 9), (5, 9), (6, 9), (7, 9), (8, 9), (0, 10), (1, 10), (2, 10), (3, 10), (4, 10), (5, 10), (6, 10), (7, 10), (8, 10)])
 .ret))⟩

/-- kilovar/kilovarref04.CheckReceiver -/
def ir38 : AFun := ⟨15, 2, [.tmp 2],
 (.seq
 (.reg [0] [⟨some 1, .cbx 0 2 (.tmp 0), none⟩,
 ⟨some 2, .mov (.cst (.d (.int .i64 0))), none⟩])
 (.seq
 (.regd [1] [⟨some 3, .fad 1 (.tmp 1), none⟩,
 ⟨some 4, .ld false 1 (.tmp 3), none⟩,
 ⟨some 5, .call 18 [(.tmp 4)], none⟩,
 ⟨some 6, .fad 0 (.tmp 1), none⟩,
 ⟨some 7, .ld false 1 (.tmp 6), none⟩,
 ⟨some 8, .fad 1 (.tmp 1), none⟩,
 ⟨some 9, .ld false 1 (.tmp 8), none⟩,
 ⟨some 10, .len (.tmp 9), none⟩,
 ⟨some 11, .cmp .neq (.tmp 7) (.tmp 10), none⟩,
 ⟨some 12, .call 66 [(.tmp 11), (.cst (.d (.int .i64 2)))], none⟩,
 ⟨some 13, .bsl 1 3 1 2 [(.int .i64 0), (.int .i64 0)] [(0, (.tmp 5)), (1, (.tmp 12))], none⟩,
 ⟨some 14, .call 89 [(.tmp 13)], none⟩,
 ⟨some 2, .mov (.tmp 14), none⟩] [(0, 3), (1, 3), (2, 3), (0, 4), (1, 4), (2, 4), (0, 5), (1, 5), (2, 5), (3, 5), (4, 5), (0, 6), (1, 6), (2, 6), (3, 6), (4, 6), (0, 7), (1, 7), (2, 7), (3, 7), (4, 7), (0, 8), (1, 8), (2, 8)])
 .ret))⟩

/-- kilovar/kilovarref04.CheckNumber -/
def ir39 : AFun := ⟨5, 0, [.tmp 2],
 (.seq
 (.reg [] [⟨some 2, .mov (.cst (.d (.int .i64 0))), none⟩])
 (.seq
 (.reg [] [⟨some 3, .mov (.tmp 0), none⟩,
 ⟨some 4, .call 62 [(.tmp 3), (.cst (.d (.int .i64 0))), (.cst (.d (.int .i64 15)))], none⟩,
 ⟨some 2, .mov (.tmp 4), none⟩])
 .ret))⟩

/-- kilovar/link.CheckSender -/
def ir43 : AFun := ⟨17, 2, [.tmp 2],
 (.seq
 (.reg [0] [⟨some 1, .cbx 0 3 (.tmp 0), none⟩,
 ⟨some 2, .mov (.cst (.d (.int .i64 0))), none⟩])
 (.seq
 (.regd [1] [⟨some 3, .fad 0 (.tmp 1), none⟩,
 ⟨some 4, .ld false 1 (.tmp 3), none⟩,
 ⟨some 5, .call 85 [(.tmp 4)], none⟩,
 ⟨some 6, .fad 1 (.tmp 1), none⟩,
 ⟨some 7, .ld false 1 (.tmp 6), none⟩,
 ⟨some 8, .fad 0 (.tmp 1), none⟩,
 ⟨some 9, .ld false 1 (.tmp 8), none⟩,
 ⟨some 10, .len (.tmp 9), none⟩,
 ⟨some 11, .call 82 [(.tmp 7), (.cst (.d (.int .i64 0))), (.tmp 10)], none⟩,
 ⟨some 12, .fad 2 (.tmp 1), none⟩,
 ⟨some 13, .ld false 1 (.tmp 12), none⟩,
 ⟨some 14, .call 82 [(.tmp 13), (.cst (.d (.int .i64 1))), (.cst (.d (.int .i64 8)))], none⟩,
 ⟨some 15, .bsl 1 31 1 3 [(.int .i64 0), (.int .i64 0), (.int .i64 0)] [(0, (.tmp 5)), (1, (.tmp 11)), (2, (.tmp 14))], none⟩,
 ⟨some 16, .call 81 [(.tmp 15)], none⟩,
 ⟨some 2, .mov (.tmp 16), none⟩] [(0, 3), (1, 3), (2, 3), (0, 4), (1, 4), (2, 4), (0, 5), (1, 5), (2, 5), (3, 5), (4, 5), (0, 6), (1, 6), (2, 6), (3, 6), (4, 6), (0, 7), (1, 7), (2, 7), (3, 7), (4, 7), (0, 9), (1, 9), (2, 9), (3, 9), (4, 9), (5, 9), (6, 9), (7, 9), (8, 9), (0, 10), (1, 10), (2, 10), (3, 10), (4, 10), (5, 10), (6, 10), (7, 10), (8, 10)])
 .ret))⟩

/-- kilovar/link.CheckReceiver -/
def ir44 : AFun := ⟨15, 2, [.tmp 2],
 (.seq
 (.reg [0] [⟨some 1, .cbx 0 2 (.tmp 0), none⟩,
 ⟨some 2, .mov (.cst (.d (.int .i64 0))), none⟩])
 (.seq
 (.regd [1] [⟨some 3, .fad 1 (.tmp 1), none⟩,
 ⟨some 4, .ld false 1 (.tmp 3), none⟩,
 ⟨some 5, .call 85 [(.tmp 4)], none⟩,
 ⟨some 6, .fad 0 (.tmp 1), none⟩,
 ⟨some 7, .ld false 1 (.tmp 6), none⟩,
 ⟨some 8, .fad 1 (.tmp 1), none⟩,
 ⟨some 9, .ld false 1 (.tmp 8), none⟩,
 ⟨some 10, .len (.tmp 9), none⟩,
 ⟨some 11, .cmp .neq (.tmp 7) (.tmp 10), none⟩,
 ⟨some 12, .call 83 [(.tmp 11), (.cst (.d (.int .i64 2)))], none⟩,
 ⟨some 13, .bsl 1 31 1 2 [(.int .i64 0), (.int .i64 0)] [(0, (.tmp 5)), (1, (.tmp 12))], none⟩,
 ⟨some 14, .call 81 [(.tmp 13)], none⟩,
 ⟨some 2, .mov (.tmp 14), none⟩] [(0, 3), (1, 3), (2, 3), (0, 4), (1, 4), (2, 4), (0, 5), (1, 5), (2, 5), (3, 5), (4, 5), (0, 6), (1, 6), (2, 6), (3, 6), (4, 6), (0, 7), (1, 7), (2, 7), (3, 7), (4, 7), (0, 8), (1, 8), (2, 8)])
 .ret))⟩

/-- kilovar/kilovarref01.SameInts -/
def ir45 : AFun := ⟨26, 0, [.tmp 4],
 (.seq
 (.reg [] [⟨some 4, .mov (.cst (.d (.bool false))), none⟩])
 (.seq
 (.seq
 (.reg [] [⟨some 6, .mov (.tmp 0), none⟩,
 ⟨some 7, .len (.tmp 6), none⟩,
 ⟨some 8, .mov (.tmp 1), none⟩,
 ⟨some 9, .len (.tmp 8), none⟩,
 ⟨some 10, .cmp .neq (.tmp 7) (.tmp 9), none⟩])
 (.cond (.tmp 10)
 (.seq
 (.reg [] [⟨some 4, .mov (.cst (.d (.bool false))), none⟩])
 .ret)
 .skip))
 (.seq
 (.seq
 (.reg [] [⟨some 5, .mov (.cst (.d (.int .i64 0))), none⟩])
 (.post [] []
 (.block 0
 (.keep [0, 1, 5] []
 (.loop
 (.post [0, 1, 5] []
 (.seq
 (.seq
 (.reg [] [⟨some 11, .mov (.tmp 5), none⟩,
 ⟨some 12, .mov (.tmp 0), none⟩,
 ⟨some 13, .len (.tmp 12), none⟩,
 ⟨some 14, .cmp .lss (.tmp 11) (.tmp 13), none⟩])
 (.cond (.tmp 14)
 .skip
 (.exit 0)))
 (.seq
 (.block 1
 (.seq
 (.regd [] [⟨some 17, .mov (.tmp 0), none⟩,
 ⟨some 18, .mov (.tmp 5), none⟩,
 ⟨some 19, .ixa 1 (.tmp 17) (.tmp 18), none⟩,
 ⟨some 20, .ld false 1 (.tmp 19), none⟩,
 ⟨some 21, .mov (.tmp 1), none⟩,
 ⟨some 22, .mov (.tmp 5), none⟩,
 ⟨some 23, .ixa 1 (.tmp 21) (.tmp 22), none⟩,
 ⟨some 24, .ld false 1 (.tmp 23), none⟩,
 ⟨some 25, .cmp .neq (.tmp 20) (.tmp 24), none⟩] [(0, 1), (0, 4), (1, 4), (2, 4), (3, 4), (0, 5), (1, 5), (2, 5), (3, 5), (4, 5), (0, 6), (1, 6), (2, 6), (3, 6), (0, 7), (1, 7), (2, 7), (3, 7)])
 (.cond (.tmp 25)
 (.seq
 (.reg [] [⟨some 4, .mov (.cst (.d (.bool false))), none⟩])
 .ret)
 .skip)))
 (.reg [] [⟨some 15, .mov (.tmp 5), none⟩,
 ⟨some 16, .arith .add .i64 (.tmp 15) (.cst (.d (.int .i64 1))), none⟩,
 ⟨some 5, .mov (.tmp 16), none⟩])))))))))
 (.seq
 (.reg [] [⟨some 4, .mov (.cst (.d (.bool true))), none⟩])
 .ret))))⟩

/-- kilovar/kilovarlaw04.heard -/
def ir46 : AFun := ⟨18, 2, [.tmp 4],
 (.seq
 (.reg [0, 1] [⟨some 2, .cbx 0 2 (.tmp 0), none⟩,
 ⟨some 3, .cbx 1 2 (.tmp 1), none⟩,
 ⟨some 4, .mov (.cst (.d (.bool false))), none⟩])
 (.seq
 (.regd [] [⟨some 5, .fad 1 (.tmp 2), none⟩,
 ⟨some 6, .ld false 1 (.tmp 5), none⟩,
 ⟨some 7, .call 23 [(.tmp 6)], none⟩,
 ⟨some 8, .fad 1 (.tmp 3), none⟩,
 ⟨some 9, .ld false 1 (.tmp 8), none⟩,
 ⟨some 10, .call 22 [(.tmp 7), (.tmp 9)], none⟩,
 ⟨some 11, .mov (.tmp 10), none⟩,
 ⟨some 12, .fad 0 (.tmp 2), some (11, true)⟩,
 ⟨some 13, .ld false 1 (.tmp 12), some (11, true)⟩,
 ⟨some 14, .fad 0 (.tmp 3), some (11, true)⟩,
 ⟨some 15, .ld false 1 (.tmp 14), some (11, true)⟩,
 ⟨some 16, .cmp .eql (.tmp 13) (.tmp 15), some (11, true)⟩,
 ⟨some 17, .pick (.tmp 11) (.tmp 16) (.cst (.d (.bool false))), none⟩,
 ⟨some 4, .mov (.tmp 17), none⟩] [(0, 3), (1, 3), (2, 3), (0, 4), (1, 4), (2, 4), (7, 9), (8, 9), (7, 10), (8, 10)])
 .ret))⟩

/-- kilovar/kilovarlaw04.sent -/
def ir47 : AFun := ⟨25, 2, [.tmp 4],
 (.seq
 (.reg [0, 1] [⟨some 2, .cbx 0 3 (.tmp 0), none⟩,
 ⟨some 3, .cbx 1 3 (.tmp 1), none⟩,
 ⟨some 4, .mov (.cst (.d (.bool false))), none⟩])
 (.seq
 (.regd [] [⟨some 5, .fad 0 (.tmp 2), none⟩,
 ⟨some 6, .ld false 1 (.tmp 5), none⟩,
 ⟨some 7, .call 23 [(.tmp 6)], none⟩,
 ⟨some 8, .fad 0 (.tmp 3), none⟩,
 ⟨some 9, .ld false 1 (.tmp 8), none⟩,
 ⟨some 10, .call 22 [(.tmp 7), (.tmp 9)], none⟩,
 ⟨some 11, .mov (.tmp 10), none⟩,
 ⟨some 12, .fad 1 (.tmp 2), some (11, true)⟩,
 ⟨some 13, .ld false 1 (.tmp 12), some (11, true)⟩,
 ⟨some 14, .fad 1 (.tmp 3), some (11, true)⟩,
 ⟨some 15, .ld false 1 (.tmp 14), some (11, true)⟩,
 ⟨some 16, .cmp .eql (.tmp 13) (.tmp 15), some (11, true)⟩,
 ⟨some 17, .pick (.tmp 11) (.tmp 16) (.cst (.d (.bool false))), none⟩,
 ⟨some 18, .mov (.tmp 17), none⟩,
 ⟨some 19, .fad 2 (.tmp 2), some (18, true)⟩,
 ⟨some 20, .ld false 1 (.tmp 19), some (18, true)⟩,
 ⟨some 21, .fad 2 (.tmp 3), some (18, true)⟩,
 ⟨some 22, .ld false 1 (.tmp 21), some (18, true)⟩,
 ⟨some 23, .cmp .eql (.tmp 20) (.tmp 22), some (18, true)⟩,
 ⟨some 24, .pick (.tmp 18) (.tmp 23) (.cst (.d (.bool false))), none⟩,
 ⟨some 4, .mov (.tmp 24), none⟩] [(0, 3), (1, 3), (2, 3), (0, 4), (1, 4), (2, 4), (7, 9), (8, 9), (7, 10), (8, 10), (14, 16), (15, 16), (14, 17), (15, 17)])
 .ret))⟩

/-- (kilovar/link.Receiver).takes -/
def ir97 : AFun := ⟨10, 1, [.tmp 4],
 (.seq
 (.reg [0] [⟨some 2, .cbx 0 2 (.tmp 0), none⟩,
 ⟨some 4, .mov (.cst (.d (.bool false))), none⟩])
 (.seq
 (.reg [] [⟨some 5, .mov (.tmp 1), none⟩,
 ⟨some 6, .fad 0 (.tmp 2), none⟩,
 ⟨some 7, .ld false 1 (.tmp 6), none⟩,
 ⟨some 8, .arith .rem .i64 (.tmp 7) (.cst (.d (.int .i64 16))), none⟩,
 ⟨some 9, .cmp .eql (.tmp 5) (.tmp 8), none⟩,
 ⟨some 4, .mov (.tmp 9), none⟩])
 .ret))⟩


structure Sn where
  q : List Fr
  a : Int
  w : Int
def Sn.d (s : Sn) : Data := .agg [.slice 4 (frs s.q), .int .i64 s.a, .int .i64 s.w]
structure Rc where
  t : Int
  l : List Fr
def Rc.d (r : Rc) : Data := .agg [.int .i64 r.t, .slice 4 (frs r.l)]
def chkSn (s : Sn) : Int := firstOf [checkFrames s.q, within3 s.a 0 (frs s.q).length, within3 s.w 1 8]
def chkRc (r : Rc) : Int := firstOf [checkFrames r.l, bif (r.t != ((frs r.l).length : Int)) then 2 else 0]

theorem c32 (s : Sn) (hl : s.q.length ≤ 1048576) (hb : ∀ f ∈ s.q, f.b.length ≤ 1048576) : CallDet Tryz.prog 32 [.d s.d] [s.d] := by
  refine call_of_vc (x := ir32) (by kernel_rfl) rfl ?_
  refine Exists.intro _ (And.intro (c15 s.q hl hb) ?_)
  repeat refine And.intro rfl ?_
  exact rfl
theorem c34 (r : Rc) (hl : r.l.length ≤ 1048576) (hb : ∀ f ∈ r.l, f.b.length ≤ 1048576) : CallDet Tryz.prog 34 [.d r.d] [r.d] := by
  refine call_of_vc (x := ir34) (by kernel_rfl) rfl ?_
  refine Exists.intro _ (And.intro (c15 r.l hl hb) ?_)
  repeat refine And.intro rfl ?_
  exact rfl
theorem c36 (s : Sn) (hl : s.q.length ≤ 1048576) (ho : ∀ f ∈ s.q, f.ok) : CallDet Tryz.prog 36 [.d s.d] [.int .i64 (chkSn s)] := by
  refine call_of_vc (x := ir36) (by kernel_rfl) rfl ?_
  refine Exists.intro _ (And.intro (c18 s.q hl ho) ?_)
  refine Exists.intro _ (And.intro (c62 s.a 0 (frs s.q).length) ?_)
  refine Exists.intro _ (And.intro (c62 s.w 1 8) ?_)
  repeat refine And.intro rfl ?_
  refine Exists.intro _ (And.intro (c89 [checkFrames s.q, within3 s.a 0 (frs s.q).length, within3 s.w 1 8] (by simp)) ?_)
  exact rfl
theorem c43 (s : Sn) (hl : s.q.length ≤ 1048576) : CallDet Tryz.prog 43 [.d s.d] [.int .i64 (chkSn s)] := by
  refine call_of_vc (x := ir43) (by kernel_rfl) rfl ?_
  refine Exists.intro _ (And.intro (c85 s.q hl) ?_)
  refine Exists.intro _ (And.intro (c82 s.a 0 (frs s.q).length) ?_)
  refine Exists.intro _ (And.intro (c82 s.w 1 8) ?_)
  repeat refine And.intro rfl ?_
  refine Exists.intro _ (And.intro (c81 [checkFrames s.q, within3 s.a 0 (frs s.q).length, within3 s.w 1 8] (by simp)) ?_)
  exact rfl
theorem c38 (r : Rc) (hl : r.l.length ≤ 1048576) (ho : ∀ f ∈ r.l, f.ok) : CallDet Tryz.prog 38 [.d r.d] [.int .i64 (chkRc r)] := by
  refine call_of_vc (x := ir38) (by kernel_rfl) rfl ?_
  refine Exists.intro _ (And.intro (c18 r.l hl ho) ?_)
  refine And.intro rfl ?_
  refine Exists.intro _ (And.intro (c66 _ _) ?_)
  repeat refine And.intro rfl ?_
  refine Exists.intro _ (And.intro (c89 [checkFrames r.l, bif (r.t != ((frs r.l).length : Int)) then 2 else 0] (by simp)) ?_)
  exact rfl
theorem c44 (r : Rc) (hl : r.l.length ≤ 1048576) : CallDet Tryz.prog 44 [.d r.d] [.int .i64 (chkRc r)] := by
  refine call_of_vc (x := ir44) (by kernel_rfl) rfl ?_
  refine Exists.intro _ (And.intro (c85 r.l hl) ?_)
  refine And.intro rfl ?_
  refine Exists.intro _ (And.intro (c83 _ _) ?_)
  repeat refine And.intro rfl ?_
  refine Exists.intro _ (And.intro (c81 [checkFrames r.l, bif (r.t != ((frs r.l).length : Int)) then 2 else 0] (by simp)) ?_)
  exact rfl
theorem c37 (es : List Int) (hl : es.length < 9223372036854775807) : CallDet Tryz.prog 37 [.d (.slice 1 (ints es))] [.int .i64 (firstOf es)] := by
  refine call_of_vc (x := ir37) (by kernel_rfl) rfl ?_
  refine Exists.intro _ (And.intro (c89 es hl) ?_)
  exact rfl
theorem c39 (n : Int) : CallDet Tryz.prog 39 [.d (.int .i64 n)] [.int .i64 (within3 n 0 15)] := by
  refine call_of_vc (x := ir39) (by kernel_rfl) rfl ?_
  refine Exists.intro _ (And.intro (c62 n 0 15) ?_)
  exact rfl
theorem rem16 (a : Int) : arithF .rem .i64 a 16 = some (a.tmod 16) := by
  simp only [arithF]
  rw [if_neg (by decide)]
theorem c97 (r : Rc) (n : Int) : CallDet Tryz.prog 97 [.d r.d, .d (.int .i64 n)] [.bool (n == r.t.tmod 16)] := by
  refine call_of_vc (x := ir97) (by kernel_rfl) rfl ?_
  refine ar_is (rem16 r.t) ?_
  refine And.intro rfl ?_
  exact rfl
def heardB (x y : Rc) : Bool := sameFrames x.l y.l && (x.t == y.t)
theorem c46 (x y : Rc) (hl : x.l.length ≤ 1048576) : CallDet Tryz.prog 46 [.d x.d, .d y.d] [.bool (heardB x y)] := by
  refine call_of_vc (x := ir46) (by kernel_rfl) rfl ?_
  refine Exists.intro _ (And.intro (c23 x.l hl) ?_)
  refine Exists.intro _ (And.intro (c22 x.l y.l hl) ?_)
  refine brk_intro ?_ ?_
  · intro h
    have h : sameFrames x.l y.l = true := h
    repeat refine And.intro rfl ?_
    rw [heardB, h]
    exact rfl
  · intro h
    have h : sameFrames x.l y.l = false := h
    repeat refine And.intro rfl ?_
    rw [heardB, h]
    exact rfl
def sentB (x y : Sn) : Bool := sameFrames x.q y.q && ((x.a == y.a) && (x.w == y.w))
theorem c47 (x y : Sn) (hl : x.q.length ≤ 1048576) : CallDet Tryz.prog 47 [.d x.d, .d y.d] [.bool (sentB x y)] := by
  refine call_of_vc (x := ir47) (by kernel_rfl) rfl ?_
  refine Exists.intro _ (And.intro (c23 x.q hl) ?_)
  refine Exists.intro _ (And.intro (c22 x.q y.q hl) ?_)
  refine brk_intro ?_ ?_
  · intro h
    have h : sameFrames x.q y.q = true := h
    repeat refine And.intro rfl ?_
    refine brk_intro ?_ ?_
    · intro h2
      have h2 : (x.a == y.a) = true := h2
      repeat refine And.intro rfl ?_
      rw [sentB, h, h2]
      exact rfl
    · intro h2
      have h2 : (x.a == y.a) = false := h2
      repeat refine And.intro rfl ?_
      rw [sentB, h, h2]
      exact rfl
  · intro h
    have h : sameFrames x.q y.q = false := h
    repeat refine And.intro rfl ?_
    rw [sentB, h]
    exact rfl
theorem c45 (a b : List Int) (ha : a.length ≤ 1048576) : CallDet Tryz.prog 45 [.d (.slice 1 (ints a)), .d (.slice 1 (ints b))] [.bool (a == b)] := by
  refine call_of_vc (x := ir45) (by kernel_rfl) rfl ?_
  have hla : (ints a).length = a.length := by simp [ints]
  have hlb : (ints b).length = b.length := by simp [ints]
  refine And.intro rfl ?_
  refine brk_intro ?_ ?_
  · intro h
    have h : (((ints a).length : Int) != ((ints b).length : Int)) = true := h
    have hn : a.length ≠ b.length := fun e => by rw [hla, hlb, e] at h; simp at h
    have e : (a == b) = false := by
      simp only [beq_eq_false_iff_ne, ne_eq]
      exact fun e => hn (congrArg _ e)
    rw [e]
    exact rfl
  · intro h
    have h : (((ints a).length : Int) != ((ints b).length : Int)) = false := h
    have hl : a.length = b.length := by rw [hla, hlb] at h; simp at h; omega
    refine loop_st (fun k : Nat => ⟨[(0, .d (.slice 1 (ints a))), (1, .d (.slice 1 (ints b))), (5, .d (.int .i64 k))], []⟩)
      (fun k => (a == b) = (a.drop k == b.drop k)) (fun k => a.length - k) 0 rfl rfl ?_
    intro k hk
    refine And.intro rfl ?_
    refine brk_intro ?_ ?_
    · intro h
      have h : (k : Int) < (ints a).length := of_decide_eq_true h
      refine Exists.elim (⟨_, List.getElem?_eq_getElem (by omega)⟩ : ∃ x, a[k]? = some x) fun x hx => ?_
      refine Exists.elim (⟨_, List.getElem?_eq_getElem (by omega)⟩ : ∃ y, b[k]? = some y) fun y hy => ?_
      refine ix_at (ints_get hx) (by omega) ?_
      refine ix_at (ints_get hy) (by omega) ?_
      refine And.intro rfl ?_
      refine brk_intro ?_ ?_
      · intro h2
        have h2 : (x != y) = true := h2
        have e : (a == b) = false := by
          rw [hk, drop_at hx, drop_at hy]
          simp at h2 ⊢
          exact fun e => absurd e h2
        rw [e]
        exact rfl
      · intro h2
        have h2 : (x != y) = false := h2
        have he : x = y := by simpa using h2
        refine ar_add (by omega) ?_
        refine ⟨k + 1, ⟨?_, by omega⟩, rfl⟩
        rw [hk, drop_at hx, drop_at hy]
        simp [he]
    · intro h
      have h : ¬ ((k : Int) < (ints a).length) := of_decide_eq_false h
      have e : (a == b) = true := by
        rw [hk, List.drop_eq_nil_of_le (by omega), List.drop_eq_nil_of_le (by omega)]
        rfl
      rw [e]
      exact rfl
end Vc

