import Derived.Test.YtifgdpnmgeffbaaGreatDoorG11
set_option linter.unusedSectionVars false
set_option linter.unusedVariables false
set_option linter.unusedSimpArgs false
set_option maxRecDepth 10000
set_option maxHeartbeats 4000000
namespace Vc
open Go Go.Proofs
@[irreducible] def seg75a:ACode:=.post [1,6] [] (.reg [] [⟨some 48,.fad 2 (.tmp 1),none⟩,
 ⟨some 49,.ld false 1 (.tmp 48),none⟩,
 ⟨some 50,.cmp .eql (.tmp 49) (.cst (.d (.int .i64 0))),none⟩,
 ⟨some 51,.mov (.tmp 50),none⟩,
 ⟨some 52,.fad 4 (.tmp 1),some (51,true)⟩,
 ⟨some 53,.ld false 1 (.tmp 52),some (51,true)⟩,
 ⟨some 54,.len (.tmp 53),some (51,true)⟩,
 ⟨some 55,.cmp .eql (.tmp 54) (.cst (.d (.int .i64 0))),some (51,true)⟩,
 ⟨some 56,.pick (.tmp 51) (.tmp 55) (.cst (.d (.bool false))),none⟩,
 ⟨some 57,.mov (.tmp 56),none⟩,
 ⟨some 58,.fad 3 (.tmp 1),some (57,true)⟩,
 ⟨some 59,.ld false 1 (.tmp 58),some (57,true)⟩,
 ⟨some 60,.cmp .eql (.tmp 59) (.cst (.d (.int .i64 0))),some (57,true)⟩,
 ⟨some 61,.pick (.tmp 57) (.tmp 60) (.cst (.d (.bool false))),none⟩,
 ⟨some 62,.mov (.tmp 61),none⟩,
 ⟨some 63,.fad 5 (.tmp 1),some (62,true)⟩,
 ⟨some 64,.ld false 1 (.tmp 63),some (62,true)⟩,
 ⟨some 65,.not (.tmp 64),some (62,true)⟩,
 ⟨some 66,.pick (.tmp 62) (.tmp 65) (.cst (.d (.bool false))),none⟩,
 ⟨some 67,.mov (.tmp 66),none⟩,
 ⟨some 68,.fad 6 (.tmp 1),some (67,true)⟩,
 ⟨some 69,.ld false 1 (.tmp 68),some (67,true)⟩,
 ⟨some 70,.not (.tmp 69),some (67,true)⟩,
 ⟨some 71,.pick (.tmp 67) (.tmp 70) (.cst (.d (.bool false))),none⟩,
 ⟨some 6,.mov (.tmp 71),none⟩])
@[irreducible] def seg75b:ACode:=.post [1,6,7] [] (.reg [] [⟨some 72,.fad 2 (.tmp 1),none⟩,
 ⟨some 73,.ld false 1 (.tmp 72),none⟩,
 ⟨some 74,.fad 0 (.tmp 1),none⟩,
 ⟨some 75,.ld false 1 (.tmp 74),none⟩,
 ⟨some 76,.cmp .gtr (.tmp 73) (.tmp 75),none⟩,
 ⟨some 77,.mov (.tmp 76),none⟩,
 ⟨some 78,.fad 4 (.tmp 1),some (77,true)⟩,
 ⟨some 79,.ld false 1 (.tmp 78),some (77,true)⟩,
 ⟨some 80,.len (.tmp 79),some (77,true)⟩,
 ⟨some 81,.cmp .gtr (.tmp 80) (.cst (.d (.int .i64 0))),some (77,true)⟩,
 ⟨some 82,.pick (.tmp 77) (.tmp 81) (.cst (.d (.bool false))),none⟩,
 ⟨some 83,.mov (.tmp 82),none⟩,
 ⟨some 84,.fad 5 (.tmp 1),some (83,true)⟩,
 ⟨some 85,.ld false 1 (.tmp 84),some (83,true)⟩,
 ⟨some 86,.not (.tmp 85),some (83,true)⟩,
 ⟨some 87,.mov (.tmp 86),some (83,true)⟩,
 ⟨some 88,.fad 4 (.tmp 1),some (87,false)⟩,
 ⟨some 89,.ld false 1 (.tmp 88),some (87,false)⟩,
 ⟨some 90,.call 146 [(.tmp 89)],some (87,false)⟩,
 ⟨some 91,.pick (.tmp 87) (.cst (.d (.bool true))) (.tmp 90),some (83,true)⟩,
 ⟨some 92,.pick (.tmp 83) (.tmp 91) (.cst (.d (.bool false))),none⟩,
 ⟨some 93,.mov (.tmp 92),none⟩,
 ⟨some 94,.fad 6 (.tmp 1),some (93,true)⟩,
 ⟨some 95,.ld false 1 (.tmp 94),some (93,true)⟩,
 ⟨some 96,.not (.tmp 95),some (93,true)⟩,
 ⟨some 97,.pick (.tmp 93) (.tmp 96) (.cst (.d (.bool false))),none⟩,
 ⟨some 7,.mov (.tmp 97),none⟩])
@[irreducible] def seg75c:ACode:=.post [1,6,7,8] [] (.reg [] [⟨some 98,.fad 2 (.tmp 1),none⟩,
 ⟨some 99,.ld false 1 (.tmp 98),none⟩,
 ⟨some 100,.cmp .gtr (.tmp 99) (.cst (.d (.int .i64 0))),none⟩,
 ⟨some 101,.mov (.tmp 100),none⟩,
 ⟨some 102,.fad 2 (.tmp 1),some (101,true)⟩,
 ⟨some 103,.ld false 1 (.tmp 102),some (101,true)⟩,
 ⟨some 104,.fad 0 (.tmp 1),some (101,true)⟩,
 ⟨some 105,.ld false 1 (.tmp 104),some (101,true)⟩,
 ⟨some 106,.cmp .eql (.tmp 103) (.tmp 105),some (101,true)⟩,
 ⟨some 107,.pick (.tmp 101) (.tmp 106) (.cst (.d (.bool false))),none⟩,
 ⟨some 108,.mov (.tmp 107),none⟩,
 ⟨some 109,.fad 4 (.tmp 1),some (108,true)⟩,
 ⟨some 110,.ld false 1 (.tmp 109),some (108,true)⟩,
 ⟨some 111,.len (.tmp 110),some (108,true)⟩,
 ⟨some 112,.cmp .gtr (.tmp 111) (.cst (.d (.int .i64 0))),some (108,true)⟩,
 ⟨some 113,.pick (.tmp 108) (.tmp 112) (.cst (.d (.bool false))),none⟩,
 ⟨some 114,.mov (.tmp 113),none⟩,
 ⟨some 115,.fad 4 (.tmp 1),some (114,true)⟩,
 ⟨some 116,.ld false 1 (.tmp 115),some (114,true)⟩,
 ⟨some 117,.call 146 [(.tmp 116)],some (114,true)⟩,
 ⟨some 118,.pick (.tmp 114) (.tmp 117) (.cst (.d (.bool false))),none⟩,
 ⟨some 119,.mov (.tmp 118),none⟩,
 ⟨some 120,.fad 5 (.tmp 1),some (119,true)⟩,
 ⟨some 121,.ld false 1 (.tmp 120),some (119,true)⟩,
 ⟨some 122,.pick (.tmp 119) (.tmp 121) (.cst (.d (.bool false))),none⟩,
 ⟨some 123,.mov (.tmp 122),none⟩,
 ⟨some 124,.fad 6 (.tmp 1),some (123,true)⟩,
 ⟨some 125,.ld false 1 (.tmp 124),some (123,true)⟩,
 ⟨some 126,.pick (.tmp 123) (.tmp 125) (.cst (.d (.bool false))),none⟩,
 ⟨some 8,.mov (.tmp 126),none⟩])
@[irreducible] def seg75d:ACode:=.post [2] [0,1,2] (.regd [2] [⟨some 127,.mov (.tmp 6),none⟩,
 ⟨some 128,.not (.tmp 127),none⟩,
 ⟨some 129,.mov (.tmp 128),none⟩,
 ⟨some 130,.mov (.tmp 7),some (129,true)⟩,
 ⟨some 131,.not (.tmp 130),some (129,true)⟩,
 ⟨some 132,.pick (.tmp 129) (.tmp 131) (.cst (.d (.bool false))),none⟩,
 ⟨some 133,.mov (.tmp 132),none⟩,
 ⟨some 134,.mov (.tmp 8),some (133,true)⟩,
 ⟨some 135,.not (.tmp 134),some (133,true)⟩,
 ⟨some 136,.pick (.tmp 133) (.tmp 135) (.cst (.d (.bool false))),none⟩,
 ⟨some 137,.call 22 [(.tmp 136),(.cst (.d (.int .i64 22)))],none⟩,
 ⟨some 138,.fad 5 (.tmp 1),none⟩,
 ⟨some 139,.ld false 1 (.tmp 138),none⟩,
 ⟨some 140,.mov (.tmp 139),none⟩,
 ⟨some 141,.fad 4 (.tmp 1),some (140,true)⟩,
 ⟨some 142,.ld false 1 (.tmp 141),some (140,true)⟩,
 ⟨some 143,.call 76 [(.tmp 142)],some (140,true)⟩,
 ⟨some 144,.fad 3 (.tmp 1),some (140,true)⟩,
 ⟨some 145,.ld false 1 (.tmp 144),some (140,true)⟩,
 ⟨some 146,.cmp .neq (.tmp 143) (.tmp 145),some (140,true)⟩,
 ⟨some 147,.pick (.tmp 140) (.tmp 146) (.cst (.d (.bool false))),none⟩,
 ⟨some 148,.call 22 [(.tmp 147),(.cst (.d (.int .i64 27)))],none⟩,
 ⟨some 149,.bsl 2 3 1 2 [(.int .i64 0),(.int .i64 0)] [(0,(.tmp 137)),(1,(.tmp 148))],none⟩,
 ⟨some 150,.call 110 [(.tmp 149)],none⟩,
 ⟨some 2,.mov (.tmp 150),none⟩] [(0,11),(1,11),(2,11),(3,11),(4,11),(5,11),(6,11),(7,11),(8,11),(9,11),(10,11),(0,12),(1,12),(2,12),(3,12),(4,12),(5,12),(6,12),(7,12),(8,12),(9,12),(10,12),(14,17),(15,17),(16,17),(14,18),(15,18),(16,18)])
@[irreducible] def seg75e:ACode:=(.seq
 (.keep [1] [] seg75a)
 (.seq
 (.keep [1,6] [] seg75b)
 (.seq
 (.keep [1,6,7] [] seg75c)
 (.seq
 (.keep [1,6,7,8] [] seg75d)
 .ret))))
def jr75:AFun:=⟨151,3,[.tmp 2],
 (.seq
 (.reg [0] [⟨some 1,.cbx 0 7 (.tmp 0),none⟩,
  ⟨some 2,.mov (.cst (.d (.int .i64 0))),none⟩])
 (.seq
  (.seq
  (.regd [1] [⟨some 9,.fad 0 (.tmp 1),none⟩,
   ⟨some 10,.ld false 1 (.tmp 9),none⟩,
   ⟨some 11,.call 112 [(.tmp 10),(.cst (.d (.int .i64 0))),(.cst (.d (.int .i64 10000)))],none⟩,
   ⟨some 12,.fad 1 (.tmp 1),none⟩,
   ⟨some 13,.ld false 1 (.tmp 12),none⟩,
   ⟨some 14,.call 112 [(.tmp 13),(.cst (.d (.int .i64 0))),(.cst (.d (.int .i64 10000)))],none⟩,
   ⟨some 15,.fad 2 (.tmp 1),none⟩,
   ⟨some 16,.ld false 1 (.tmp 15),none⟩,
   ⟨some 17,.call 112 [(.tmp 16),(.cst (.d (.int .i64 0))),(.cst (.d (.int .i64 10000)))],none⟩,
   ⟨some 18,.fad 4 (.tmp 1),none⟩,
   ⟨some 19,.ld false 1 (.tmp 18),none⟩,
   ⟨some 20,.len (.tmp 19),none⟩,
   ⟨some 21,.cmp .gtr (.tmp 20) (.cst (.d (.int .i64 16))),none⟩,
   ⟨some 22,.call 22 [(.tmp 21),(.cst (.d (.int .i64 5)))],none⟩,
   ⟨some 23,.bsl 1 3 1 4 [(.int .i64 0),(.int .i64 0),(.int .i64 0),(.int .i64 0)] [(0,(.tmp 11)),(1,(.tmp 14)),(2,(.tmp 17)),(3,(.tmp 22))],none⟩,
   ⟨some 24,.call 110 [(.tmp 23)],none⟩,
   ⟨some 3,.mov (.tmp 24),none⟩] [(0,3),(1,3),(2,3),(0,4),(1,4),(2,4),(0,6),(1,6),(2,6),(3,6),(4,6),(5,6),(0,7),(1,7),(2,7),(3,7),(4,7),(5,7),(0,9),(1,9),(2,9),(3,9),(4,9),(5,9),(6,9),(7,9),(8,9),(0,10),(1,10),(2,10),(3,10),(4,10),(5,10),(6,10),(7,10),(8,10),(0,11),(1,11),(2,11),(3,11),(4,11),(5,11),(6,11),(7,11),(8,11),(0,12),(1,12),(2,12),(3,12),(4,12),(5,12),(6,12),(7,12),(8,12)])
  (.seq
   (.reg [] [⟨some 25,.mov (.tmp 3),none⟩,
    ⟨some 26,.cmp .neq (.tmp 25) (.cst (.d (.int .i64 0))),none⟩])
   (.cond (.tmp 26)
   (.seq
    (.reg [] [⟨some 27,.mov (.tmp 3),none⟩,
     ⟨some 2,.mov (.tmp 27),none⟩])
    .ret)
   .skip)))
  (.seq
  (.seq
   (.reg [] [⟨some 4,.mov (.cst (.d (.int .i64 0))),none⟩])
   (.post [1] [0,1]
   (.block 0
    (.keep [1,4] [0,1]
    (.loop
     (.post [1,4] []
     (.seq
      (.seq
      (.reg [] [⟨some 28,.mov (.tmp 4),none⟩,
       ⟨some 29,.fad 4 (.tmp 1),none⟩,
       ⟨some 30,.ld false 1 (.tmp 29),none⟩,
       ⟨some 31,.len (.tmp 30),none⟩,
       ⟨some 32,.cmp .lss (.tmp 28) (.tmp 31),none⟩])
      (.cond (.tmp 32)
       .skip
       (.exit 0)))
      (.seq
      (.block 1
       (.seq
       (.reg [] [⟨some 35,.fad 4 (.tmp 1),none⟩,
        ⟨some 36,.ld false 1 (.tmp 35),none⟩,
        ⟨some 37,.mov (.tmp 4),none⟩,
        ⟨some 38,.ixa 1 (.tmp 36) (.tmp 37),none⟩,
        ⟨some 39,.ld false 1 (.tmp 38),none⟩,
        ⟨some 40,.len (.tmp 39),none⟩,
        ⟨some 41,.cmp .gtr (.tmp 40) (.cst (.d (.int .i64 32))),none⟩])
       (.cond (.tmp 41)
        (.seq
        (.reg [] [⟨some 2,.mov (.cst (.d (.int .i64 4))),none⟩])
        .ret)
        .skip)))
      (.reg [] [⟨some 33,.mov (.tmp 4),none⟩,
       ⟨some 34,.arith .add .i64 (.tmp 33) (.cst (.d (.int .i64 1))),none⟩,
       ⟨some 4,.mov (.tmp 34),none⟩])))))))))
  (.seq
   (.seq
   (.reg [] [⟨some 42,.fad 3 (.tmp 1),none⟩,
    ⟨some 43,.ld false 1 (.tmp 42),none⟩,
    ⟨some 44,.call 112 [(.tmp 43),(.cst (.d (.int .i64 0))),(.cst (.d (.int .i64 9972)))],none⟩,
    ⟨some 5,.mov (.tmp 44),none⟩])
   (.seq
    (.reg [] [⟨some 45,.mov (.tmp 5),none⟩,
     ⟨some 46,.cmp .neq (.tmp 45) (.cst (.d (.int .i64 0))),none⟩])
    (.cond (.tmp 46)
    (.seq
     (.reg [] [⟨some 47,.mov (.tmp 5),none⟩,
      ⟨some 2,.mov (.tmp 47),none⟩])
     .ret)
    .skip)))
   (.keep [1] [] seg75e)))))⟩
def nothF (s:Sto):Bool:=((((s.nw==0)&&((s.ps.length:Int)==0))&&(s.su==0))&&!s.ck)&&!s.tr
def begF (s:Sto):Bool:=((decide (s.ru < s.nw)&&decide ((0:Int) < (s.ps.length:Int)))&&(!s.ck||!miss s.ps))&&!s.tr
def triF (s:Sto):Bool:=((((decide ((0:Int) < s.nw)&&(s.nw==s.ru))&&decide ((0:Int) < (s.ps.length:Int)))&&!miss s.ps)&&s.ck)&&s.tr
theorem v75a {n:Nat} {s:Sto} (h:s.ok) {Q:AExit→St→Prop} (hQ:Q .normal ⟨[(1,.ptr 0 0),(6,.d (.bool (nothF s)))],[.cbox [.int .i64 s.ru,.int .i64 s.ol,.int .i64 s.nw,.int .i64 s.su,.slice 1 (pss s.ps),.bool s.ck,.bool s.tr],.none,.none]⟩):vc Tryz.prog n seg75a ⟨[(1,.ptr 0 0)],[.cbox [.int .i64 s.ru,.int .i64 s.ol,.int .i64 s.nw,.int .i64 s.su,.slice 1 (pss s.ps),.bool s.ck,.bool s.tr],.none,.none]⟩ Q:=by
 have hll:=pss_len s.ps
 have c146_:=c146 s.ps h.1
 have hq:∀ x:Bool,x=nothF s→Q .normal ⟨[(1,.ptr 0 0),(6,.d (.bool x))],[.cbox [.int .i64 s.ru,.int .i64 s.ol,.int .i64 s.nw,.int .i64 s.su,.slice 1 (pss s.ps),.bool s.ck,.bool s.tr],.none,.none]⟩:=fun x hx=>by rw [hx]; exact hQ
 unfold nothF at hq
 rw [← hll] at hq
 clear hll h
 unfold seg75a
 refine sd ?_
 refine b_eq (fun t1=>?_) (fun t1=>?_)
 refine sd ?_
 refine b_eq (fun t2=>?_) (fun t2=>?_)
 refine sd ?_
 refine b_eq (fun t3=>?_) (fun t3=>?_)
 refine b_intro (fun t4=>?_) (fun t4=>?_)
 replace t4:(!Sto.ck s)=true:=t4
 rotate_left
 replace t4:(!Sto.ck s)=false:=t4
 refine sd ?_
 rotate_left
 refine sd ?_
 refine sd ?_
 rotate_left
 refine sd ?_
 refine sd ?_
 refine sd ?_
 rotate_left
 refine sd ?_
 refine sd ?_
 refine sd ?_
 refine sd ?_
 rotate_left
 all_goals (refine hq _ ?_; clear hq hQ c146_; rw [Bool.eq_iff_iff]; generalize ((pss s.ps).length:Int)=n at *; simp_all [cmpF,Bool.cond_eq_ite] <;> (intros; omega))
theorem v75b {n:Nat} {s:Sto} (h:s.ok) (a:Bool) {Q:AExit→St→Prop} (hQ:Q .normal ⟨[(1,.ptr 0 0),(6,.d (.bool a)),(7,.d (.bool (begF s)))],[.cbox [.int .i64 s.ru,.int .i64 s.ol,.int .i64 s.nw,.int .i64 s.su,.slice 1 (pss s.ps),.bool s.ck,.bool s.tr],.none,.none]⟩):vc Tryz.prog n seg75b ⟨[(1,.ptr 0 0),(6,.d (.bool a))],[.cbox [.int .i64 s.ru,.int .i64 s.ol,.int .i64 s.nw,.int .i64 s.su,.slice 1 (pss s.ps),.bool s.ck,.bool s.tr],.none,.none]⟩ Q:=by
 have hll:=pss_len s.ps
 have c146_:=c146 s.ps h.1
 have hq:∀ x:Bool,x=begF s→Q .normal ⟨[(1,.ptr 0 0),(6,.d (.bool a)),(7,.d (.bool x))],[.cbox [.int .i64 s.ru,.int .i64 s.ol,.int .i64 s.nw,.int .i64 s.su,.slice 1 (pss s.ps),.bool s.ck,.bool s.tr],.none,.none]⟩:=fun x hx=>by rw [hx]; exact hQ
 unfold begF at hq
 rw [← hll] at hq
 clear hll h
 unfold seg75b
 refine sd ?_
 refine b_lt (fun t1=>?_) (fun t1=>?_)
 refine sd ?_
 refine b_lt (fun t2=>?_) (fun t2=>?_)
 refine b_intro (fun t3=>?_) (fun t3=>?_)
 refine sd ?_
 rotate_left
 refine ca c146_ ?_
 refine b_intro (fun t4=>?_) (fun t4=>?_)
 replace t4:(!miss (Sto.ps s))=true:=t4
 rotate_left
 replace t4:(!miss (Sto.ps s))=false:=t4
 refine sd ?_
 rotate_left
 refine sd ?_
 refine sd ?_
 rotate_left
 refine sd ?_
 refine sd ?_
 refine sd ?_
 rotate_left
 all_goals (refine hq _ ?_; clear hq hQ c146_; rw [Bool.eq_iff_iff]; generalize ((pss s.ps).length:Int)=n at *; simp_all [cmpF,Bool.cond_eq_ite] <;> (intros; omega))
theorem v75c {n:Nat} {s:Sto} (h:s.ok) (a:Bool) (b:Bool) {Q:AExit→St→Prop} (hQ:Q .normal ⟨[(1,.ptr 0 0),(6,.d (.bool a)),(7,.d (.bool b)),(8,.d (.bool (triF s)))],[.cbox [.int .i64 s.ru,.int .i64 s.ol,.int .i64 s.nw,.int .i64 s.su,.slice 1 (pss s.ps),.bool s.ck,.bool s.tr],.none,.none]⟩):vc Tryz.prog n seg75c ⟨[(1,.ptr 0 0),(6,.d (.bool a)),(7,.d (.bool b))],[.cbox [.int .i64 s.ru,.int .i64 s.ol,.int .i64 s.nw,.int .i64 s.su,.slice 1 (pss s.ps),.bool s.ck,.bool s.tr],.none,.none]⟩ Q:=by
 have hll:=pss_len s.ps
 have c146_:=c146 s.ps h.1
 have hq:∀ x:Bool,x=triF s→Q .normal ⟨[(1,.ptr 0 0),(6,.d (.bool a)),(7,.d (.bool b)),(8,.d (.bool x))],[.cbox [.int .i64 s.ru,.int .i64 s.ol,.int .i64 s.nw,.int .i64 s.su,.slice 1 (pss s.ps),.bool s.ck,.bool s.tr],.none,.none]⟩:=fun x hx=>by rw [hx]; exact hQ
 unfold triF at hq
 rw [← hll] at hq
 clear hll h
 unfold seg75c
 refine sd ?_
 refine b_lt (fun t1=>?_) (fun t1=>?_)
 refine sd ?_
 refine b_eq (fun t2=>?_) (fun t2=>?_)
 refine sd ?_
 refine b_lt (fun t3=>?_) (fun t3=>?_)
 refine ca c146_ ?_
 refine b_intro (fun t4=>?_) (fun t4=>?_)
 replace t4:(!miss (Sto.ps s))=true:=t4
 refine b_intro (fun t5=>?_) (fun t5=>?_)
 replace t5:Sto.ck s=true:=t5
 rotate_left
 replace t5:Sto.ck s=false:=t5
 refine sd ?_
 rotate_left
 replace t4:(!miss (Sto.ps s))=false:=t4
 refine sd ?_
 refine sd ?_
 rotate_left
 refine sd ?_
 refine sd ?_
 refine sd ?_
 rotate_left
 refine sd ?_
 refine sd ?_
 refine sd ?_
 refine sd ?_
 rotate_left
 refine sd ?_
 refine sd ?_
 refine sd ?_
 refine sd ?_
 refine sd ?_
 rotate_left
 all_goals (refine hq _ ?_; clear hq hQ c146_; rw [Bool.eq_iff_iff]; generalize ((pss s.ps).length:Int)=n at *; simp_all [cmpF,Bool.cond_eq_ite] <;> (intros; omega))
theorem v75d {n:Nat} {s:Sto} (h:s.ok) (a b c:Bool) {Q:AExit→St→Prop} (hQ:Q .normal ⟨[(2,.d (.int .i64 (firstOf [bif ((!a&&!b)&&!c) then 22 else 0,bif s.ck&&(psum s.ps != s.su) then 27 else 0])))],[.none,.none,.none]⟩):vc Tryz.prog n seg75d ⟨[(1,.ptr 0 0),(6,.d (.bool a)),(7,.d (.bool b)),(8,.d (.bool c))],[.cbox [.int .i64 s.ru,.int .i64 s.ol,.int .i64 s.nw,.int .i64 s.su,.slice 1 (pss s.ps),.bool s.ck,.bool s.tr],.none,.none]⟩ Q:=by
 have c76_:=c76 s.ps h.1 h.2
 unfold seg75d
 cases a <;> cases b <;> cases c <;> cases hc:s.ck <;> rw [hc] at hQ
 ·refine ca (c22 _ _) ?_
  refine sd ?_
  refine ca (c22 _ _) ?_
  refine sd ?_
  refine sd ?_
  refine ca (c110 [(22:Int),(0:Int)] (by simp)) ?_
  rotate_left
  exact hQ
 ·refine ca (c22 _ _) ?_
  refine ca c76_ ?_
  refine sd ?_
  refine ca (c22 _ _) ?_
  refine sd ?_
  refine sd ?_
  refine ca (c110 [(22:Int),bif psum (Sto.ps s) != Sto.su s then (27:Int) else (0:Int)] (by simp)) ?_
  rotate_left
  exact hQ
 ·refine ca (c22 _ _) ?_
  refine sd ?_
  refine ca (c22 _ _) ?_
  refine sd ?_
  refine sd ?_
  refine ca (c110 [(0:Int),(0:Int)] (by simp)) ?_
  rotate_left
  exact hQ
 ·refine ca (c22 _ _) ?_
  refine ca c76_ ?_
  refine sd ?_
  refine ca (c22 _ _) ?_
  refine sd ?_
  refine sd ?_
  refine ca (c110 [(0:Int),bif psum (Sto.ps s) != Sto.su s then (27:Int) else (0:Int)] (by simp)) ?_
  rotate_left
  exact hQ
 ·refine sd ?_
  refine ca (c22 _ _) ?_
  refine sd ?_
  refine ca (c22 _ _) ?_
  refine sd ?_
  refine sd ?_
  refine ca (c110 [(0:Int),(0:Int)] (by simp)) ?_
  rotate_left
  exact hQ
 ·refine sd ?_
  refine ca (c22 _ _) ?_
  refine ca c76_ ?_
  refine sd ?_
  refine ca (c22 _ _) ?_
  refine sd ?_
  refine sd ?_
  refine ca (c110 [(0:Int),bif psum (Sto.ps s) != Sto.su s then (27:Int) else (0:Int)] (by simp)) ?_
  rotate_left
  exact hQ
 ·refine sd ?_
  refine ca (c22 _ _) ?_
  refine sd ?_
  refine ca (c22 _ _) ?_
  refine sd ?_
  refine sd ?_
  refine ca (c110 [(0:Int),(0:Int)] (by simp)) ?_
  rotate_left
  exact hQ
 ·refine sd ?_
  refine ca (c22 _ _) ?_
  refine ca c76_ ?_
  refine sd ?_
  refine ca (c22 _ _) ?_
  refine sd ?_
  refine sd ?_
  refine ca (c110 [(0:Int),bif psum (Sto.ps s) != Sto.su s then (27:Int) else (0:Int)] (by simp)) ?_
  rotate_left
  exact hQ
 ·refine sd ?_
  refine sd ?_
  refine ca (c22 _ _) ?_
  refine sd ?_
  refine ca (c22 _ _) ?_
  refine sd ?_
  refine sd ?_
  refine ca (c110 [(0:Int),(0:Int)] (by simp)) ?_
  rotate_left
  exact hQ
 ·refine sd ?_
  refine sd ?_
  refine ca (c22 _ _) ?_
  refine ca c76_ ?_
  refine sd ?_
  refine ca (c22 _ _) ?_
  refine sd ?_
  refine sd ?_
  refine ca (c110 [(0:Int),bif psum (Sto.ps s) != Sto.su s then (27:Int) else (0:Int)] (by simp)) ?_
  rotate_left
  exact hQ
 ·refine sd ?_
  refine sd ?_
  refine ca (c22 _ _) ?_
  refine sd ?_
  refine ca (c22 _ _) ?_
  refine sd ?_
  refine sd ?_
  refine ca (c110 [(0:Int),(0:Int)] (by simp)) ?_
  rotate_left
  exact hQ
 ·refine sd ?_
  refine sd ?_
  refine ca (c22 _ _) ?_
  refine ca c76_ ?_
  refine sd ?_
  refine ca (c22 _ _) ?_
  refine sd ?_
  refine sd ?_
  refine ca (c110 [(0:Int),bif psum (Sto.ps s) != Sto.su s then (27:Int) else (0:Int)] (by simp)) ?_
  rotate_left
  exact hQ
 ·refine sd ?_
  refine sd ?_
  refine ca (c22 _ _) ?_
  refine sd ?_
  refine ca (c22 _ _) ?_
  refine sd ?_
  refine sd ?_
  refine ca (c110 [(0:Int),(0:Int)] (by simp)) ?_
  rotate_left
  exact hQ
 ·refine sd ?_
  refine sd ?_
  refine ca (c22 _ _) ?_
  refine ca c76_ ?_
  refine sd ?_
  refine ca (c22 _ _) ?_
  refine sd ?_
  refine sd ?_
  refine ca (c110 [(0:Int),bif psum (Sto.ps s) != Sto.su s then (27:Int) else (0:Int)] (by simp)) ?_
  rotate_left
  exact hQ
 ·refine sd ?_
  refine sd ?_
  refine ca (c22 _ _) ?_
  refine sd ?_
  refine ca (c22 _ _) ?_
  refine sd ?_
  refine sd ?_
  refine ca (c110 [(0:Int),(0:Int)] (by simp)) ?_
  rotate_left
  exact hQ
 ·refine sd ?_
  refine sd ?_
  refine ca (c22 _ _) ?_
  refine ca c76_ ?_
  refine sd ?_
  refine ca (c22 _ _) ?_
  refine sd ?_
  refine sd ?_
  refine ca (c110 [(0:Int),bif psum (Sto.ps s) != Sto.su s then (27:Int) else (0:Int)] (by simp)) ?_
  rotate_left
  exact hQ
theorem long_4 {s:Sto} (h:stoA s=0) (h2:longP s.ps=true):chkS s=4:=by
 have e:stoB s=4:=by unfold stoB; rw [h2]; rfl
 rw [chk_b h (by rw [e]; decide),e]
theorem long_s {s:Sto} (h:stoA s=0) (h2:longP s.ps=false) (h3:within3 s.su 0 9972≠0):chkS s=within3 s.su 0 9972:=by
 have e:stoB s=within3 s.su 0 9972:=by unfold stoB; rw [h2]; exact first_nz2 _ h3 _
 rw [chk_b h (by rw [e]; exact h3),e]
theorem long_f {s:Sto} (h:stoA s=0) (h2:longP s.ps=false) (h3:within3 s.su 0 9972=0):chkS s=firstOf [bif !formedB s then 22 else 0,stoC s]:=by
 have e:stoB s=bif !formedB s then 22 else 0:=by
  unfold stoB; rw [h2,h3]
  cases formedB s <;> rfl
 cases hf:formedB s
 ·rw [hf] at e
  rw [chk_b h (by rw [e]; decide),e]; rfl
 ·rw [hf] at e
  rw [chk_c h e,first_cons]
  unfold stoC
  cases s.ck <;> cases (psum s.ps != s.su) <;> rfl
theorem form_F {s:Sto} (h:stoA s=0):((!nothF s&&!begF s)&&!triF s)=!formedB s:=by
 rw [← form_ref h]
 unfold nothF begF triF
 generalize ((s.ps.length:Int)==0)=x1
 generalize (s.nw==0)=x2
 generalize (s.su==0)=x3
 generalize (s.nw==s.ru)=x4
 generalize decide ((0:Int) < (s.ps.length:Int))=x5
 generalize decide (s.ru < s.nw)=x6
 generalize decide (0 < s.nw)=x7
 generalize miss s.ps=x8
 generalize s.ck=x9
 generalize s.tr=y1
 cases x2 <;> cases x4 <;> cases x5 <;> cases x6 <;> cases x7 <;> cases x8 <;> cases x9 <;> cases y1 <;> cases x1 <;> cases x3 <;> rfl
theorem v75e {n:Nat} {s:Sto} (h:s.ok) {Q:AExit→St→Prop} (hQ:Q .ret ⟨[(2,.d (.int .i64 (firstOf [bif ((!nothF s&&!begF s)&&!triF s) then 22 else 0,bif s.ck&&(psum s.ps != s.su) then 27 else 0])))],[.none,.none,.none]⟩):vc Tryz.prog n seg75e ⟨[(1,.ptr 0 0)],[.cbox [.int .i64 s.ru,.int .i64 s.ol,.int .i64 s.nw,.int .i64 s.su,.slice 1 (pss s.ps),.bool s.ck,.bool s.tr],.none,.none]⟩ Q:=by
 unfold seg75e
 refine v75a h ?_
 refine v75b h (nothF s) ?_
 refine v75c h (nothF s) (begF s) ?_
 refine v75d h (nothF s) (begF s) (triF s) ?_
 rotate_left
 exact hQ
theorem c75 (s:Sto) (h:s.ok):CallDet Tryz.prog 75 [.d s.d] [.int .i64 (chkS s)]:=by
 have hll:=pss_len s.ps
 have h1:=h.1
 have c110_:CallDet Tryz.prog 110 [.d (.slice 1 [.int .i64 (within3 s.ru 0 10000),.int .i64 (within3 s.ol 0 10000),.int .i64 (within3 s.nw 0 10000),.int .i64 (bif decide ((16:Int) < ((pss s.ps).length:Int)) then 5 else 0)])] [.int .i64 (stoA s)]:=by
  rw [hll]; exact c110 [within3 s.ru 0 10000,within3 s.ol 0 10000,within3 s.nw 0 10000,bif decide ((16:Int) < (s.ps.length:Int)) then 5 else 0] (by simp)
 refine call_of_vc (x:=jr75) (by kernel_rfl) rfl ?_
 refine ca (c112 _ _ _) ?_
 refine ca (c112 _ _ _) ?_
 refine ca (c112 _ _ _) ?_
 refine sd ?_
 refine ca (c22 _ _) ?_
 refine sd ?_
 refine sd ?_
 refine ca c110_ ?_
 refine sd ?_
 refine b_ne (fun t1=>?_) (fun t1=>?_)
 rotate_left
 rotate_left
 ·show resV [.int .i64 (stoA s)]=resV [.int .i64 (chkS s)]
  rw [chk_a t1]
 refine loop_st (fun k:Nat=>⟨[(1,.ptr 0 0),(4,.d (.int .i64 k))],[.cbox [.int .i64 s.ru,.int .i64 s.ol,.int .i64 s.nw,.int .i64 s.su,.slice 1 (pss s.ps),.bool s.ck,.bool s.tr],.none,.none]⟩) (fun k=>k≤s.ps.length∧longP s.ps=longP (s.ps.drop k)) (fun k=>s.ps.length - k) 0 rfl ⟨Nat.zero_le _,rfl⟩ ?_
 rintro k ⟨hk,hi⟩
 dsimp only
 by_cases hkn:k < s.ps.length
 ·refine Exists.elim (get_lt s.ps hkn) fun x hx=>?_
  have hx1:=pss_at hx
  have hlx:=bys_len x
  rw [drop_at hx,show longP (x::s.ps.drop (k+1))=(decide ((32:Int) < (x.length:Int))||longP (s.ps.drop (k+1))) from List.any_cons] at hi
  have fin:decide ((32:Int) < (x.length:Int))=false→∃ a':Nat,((a'≤s.ps.length∧longP s.ps=longP (s.ps.drop a'))∧s.ps.length - a' < s.ps.length - k)∧(⟨[(1,.ptr 0 0),(4,.d (.int .i64 ((k:Int)+1)))],[.cbox [.int .i64 s.ru,.int .i64 s.ol,.int .i64 s.nw,.int .i64 s.su,.slice 1 (pss s.ps),.bool s.ck,.bool s.tr],.none,.none]⟩:St)=⟨[(1,.ptr 0 0),(4,.d (.int .i64 (a':Nat)))],[.cbox [.int .i64 s.ru,.int .i64 s.ol,.int .i64 s.nw,.int .i64 s.su,.slice 1 (pss s.ps),.bool s.ck,.bool s.tr],.none,.none]⟩:=fun h =>
   ⟨k+1,⟨⟨by omega,by rw [hi,h]; rfl⟩,by omega⟩,rfl⟩
  refine sd ?_
  refine b_lt (fun t2=>?_) (fun t2=>?_)
  refine ix_at hx1 ?_ ?_
  (show (0:Int)≤(↑k:Int); omega)
  refine sd ?_
  refine b_lt (fun t3=>?_) (fun t3=>?_)
  rotate_left
  refine ar_add ?_ ?_
  refine an ?_ ?_
  (show (-9223372036854775808:Int)≤(↑k:Int)+(1:Int); omega)
  (show (↑k:Int)+(1:Int)≤(9223372036854775807:Int); omega)
  rotate_left
  (exfalso; omega)
  ·show resV [.int .i64 4]=resV [.int .i64 (chkS s)]
   rw [long_4 t1 (by rw [hi,decide_eq_true (by omega)]; rfl)]
  ·exact fin (decide_eq_false (by omega))
 have e:s.ps.drop k=[]:=List.drop_eq_nil_of_le (by omega)
 rw [e] at hi
 have hi:longP s.ps=false:=hi
 refine sd ?_
 refine b_lt (fun t2=>?_) (fun t2=>?_)
 (exfalso; omega)
 refine ca (c112 _ _ _) ?_
 refine sd ?_
 refine b_ne (fun t3=>?_) (fun t3=>?_)
 rotate_left
 refine v75e h ?_
 rotate_left
 ·show resV [.int .i64 (within3 s.su 0 9972)]=resV [.int .i64 (chkS s)]
  rw [long_s t1 hi t3]
 have hF:=form_F t1
 have hR:firstOf [bif ((!nothF s&&!begF s)&&!triF s) then 22 else 0,bif s.ck&&(psum s.ps != s.su) then 27 else 0]=chkS s:=by rw [hF,long_f t1 hi t3]; rfl
 show resV [.int .i64 (firstOf [bif ((!nothF s&&!begF s)&&!triF s) then 22 else 0,bif s.ck&&(psum s.ps != s.su) then 27 else 0])]=resV [.int .i64 (chkS s)]
 rw [hR]
end Vc
