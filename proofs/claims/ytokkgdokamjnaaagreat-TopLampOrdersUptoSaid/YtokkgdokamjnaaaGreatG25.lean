import Derived.Test.YtokkgdokamjnaaaGreatG22
import Derived.Test.YtokkgdokamjnaaaGreatG24
set_option linter.unusedSectionVars false
set_option linter.unusedVariables false
set_option linter.unusedSimpArgs false
set_option maxRecDepth 10000
set_option maxHeartbeats 4000000
namespace Vc
open Go Go.Proofs
theorem w3d {m:Ms} {H:List L.Hr} {xs:List (Int × Int)} {n0 n1 n2 T0 la f0:Int} {mi T F:Nat} {Q:AExit→St→Prop} {N Y:Int} {os:List L.Od} (hcS:L.ckS ⟨true,false,os⟩=0) (hos:os.length≤2) (hcH:L.ckH H=0) (hN:0≤N∧N≤100000000) (hF:F≤3000) (hl:L.lst ⟨true,false,os⟩≤N) (hYq:decide (Y < 2)=L.few ⟨true,false,os⟩ N (F:Int)) (hYb:0≤Y∧Y≤2) (hR:∀ st,endP [.tmp 6] [.bool true] st→Q .ret st):vc Tryz.prog 340 rest3d ⟨[(1,.d (.slice 9 (L.hrs H))),(10,.d (.int .i64 ((F:Nat):Int))),(14,.ptr 5 0),(25,.d (.int .i64 N)),(26,.d (.int .i64 (Y)))],[.none,.none,.none,.none,.none,.box [.d (.bool true),.d (.bool false),.d (.slice 2 (L.ods os))],.none,.none,.none,.none,.none,.none,.none,.none,.none,.none,.none,.none,.none,.none,.none]⟩ Q:=by
 have hHl:H.length≤1048576:=by have:=(L.ckH_ok hcH).1; omega
 have hap:L.apE ⟨true,false,os⟩ H N (F:Int)=0:=by
  show L.firstOf [L.ckS ⟨true,false,os⟩,L.ckH H,L.within3 N 0 100000000,L.within3 (F:Int) 0 1000000,bif decide (N < L.lst ⟨true,false,os⟩) then 11 else 0]=0
  have e:L.within3 (F:Int) 0 1000000=0:=by unfold L.within3; rw [decide_eq_false (by omega),decide_eq_false (by omega)]; rfl
  rw [hcS,hcH,wi0 hN,e,decide_eq_false (by omega)]; rfl
 have hfr:L.frE H N=0:=by
  show L.firstOf [L.ckH H,L.within3 N 0 100000000]=0
  rw [hcH,wi0 hN]; rfl
 have hol:(L.ods os).length=os.length:=List.length_map _
 have c11_:=L.c47 H hHl
 have c6_:=k6
 have c15_1:CallDet Tryz.prog 15 [.d (.agg [.bool false,.bool false,.slice 2 []])] [.agg [.bool false,.bool false,.slice 2 []],.int .i64 29]:=L.c72 ⟨false,false,[]⟩ (by decide)
 have c16_:CallDet Tryz.prog 16 [.d (.agg [.bool false,.bool false,.slice 2 []])] [.agg [.bool false,.bool true,.slice 2 []],.int .i64 0]:=L.c73 ⟨false,false,[]⟩ (by decide)
 have c15_2:CallDet Tryz.prog 15 [.d (.agg [.bool false,.bool true,.slice 2 []])] [.agg [.bool true,.bool false,.slice 2 []],.int .i64 0]:=L.c72 ⟨false,true,[]⟩ (by decide)
 unfold rest3d
 rcases Bool.eq_false_or_eq_true (L.prL H N) with hp | hp <;> rcases Bool.eq_false_or_eq_true (L.few ⟨true,false,os⟩ N (F:Int)) with hq | hq
 ·have c10_ : CallDet Tryz.prog 10 [.d (.slice 9 (L.hrs H)), .d (.int .i64 N)] [.bool true, .int .i64 0] := by
   have z:=L.c46 H N hHl
   rw [hfr,hp] at z; exact z
  have c12_:CallDet Tryz.prog 12 [.d (.agg [.bool true,.bool false,.slice 2 (L.ods os)]),.d (.slice 9 (L.hrs H)),.d (.int .i64 N),.d (.int .i64 ((F:Nat):Int))] [.slice 1 [.str [112,114,111,116,101,99,116,101,100],.str [111,102,102,105,99,101,115]],.int .i64 0]:=by
   have z:=L.c57 ⟨true,false,os⟩ H N F (by show os.length≤_; omega) hHl
   rw [hap] at z
   have z:CallDet Tryz.prog 12 [.d (.agg [.bool true,.bool false,.slice 2 (L.ods os)]),.d (.slice 9 (L.hrs H)),.d (.int .i64 N),.d (.int .i64 ((F:Nat):Int))] [.slice 1 (L.strs ((L.w0 (!true)++L.w1 (L.prL H N)++L.w2 (L.few ⟨true,false,os⟩ N F)).map L.Br.w)),.int .i64 0]:=z
   rw [hp,hq] at z; exact z
  have c13_:CallDet Tryz.prog 13 [.d (.agg [.bool true,.bool false,.slice 2 (L.ods os)]),.d (.slice 9 (L.hrs H)),.d (.int .i64 N),.d (.int .i64 ((F:Nat):Int))] [.agg [.bool false,.bool false,.slice 2 []],.int .i64 31]:=by
   have z:=L.c59 ⟨true,false,os⟩ H N F (by show os.length≤_; omega) hHl
   have e:L.opE ⟨true,false,os⟩ H N F=31:=by
    unfold L.opE
    rw [hap]
    show L.firstOf ((L.w0 (!true)++L.w1 (L.prL H N)++L.w2 (L.few ⟨true,false,os⟩ N F)).map L.Br.e)=31
    rw [hp,hq]; rfl
   rw [e] at z; exact z
  have c14_:CallDet Tryz.prog 14 [.d (.slice 1 [.str [112,114,111,116,101,99,116,101,100],.str [111,102,102,105,99,101,115]]),.d (.slice 1 [.str [112,114,111,116,101,99,116,101,100],.str [111,102,102,105,99,101,115]])] [.bool true]:=k14 [[112,114,111,116,101,99,116,101,100],[111,102,102,105,99,101,115]] (by decide)
  have hY:Y < 2:=by exact of_decide_eq_true (hYq.trans hq)
  refine ca c11_ ?_
  refine ca c10_ ?_
  refine sd ?_
  refine sd ?_
  refine an ?_ ?_
  refine an ?_ ?_
  exact rfl
  refine an ?_ ?_
  exact rfl
  refine an ?_ ?_
  exact rfl
  refine an ?_ ?_
  (show ((0:Nat)+List.length (L.ods os)) * (24:Nat)≤(2:Nat) ^ (47:Nat); omega)
  (show (0:Nat)+List.length (L.ods os)≤(2:Nat) ^ (47:Nat); omega)
  refine sd ?_
  refine ca c11_ ?_
  refine sd ?_
  refine ca c12_ ?_
  refine ca c11_ ?_
  refine ca c13_ ?_
  refine sd ?_
  refine sd ?_
  refine sd ?_
  refine sd ?_
  refine sd ?_
  refine an ?_ ?_
  refine an ?_ ?_
  (show (1:Nat) * (16:Nat)≤(2:Nat) ^ (47:Nat); omega)
  (show (1:Nat)≤(2:Nat) ^ (47:Nat); omega)
  refine sd ?_
  refine b_lt (fun t1=>?_) (fun t1=>?_)
  refine sd ?_
  refine sd ?_
  refine sd ?_
  refine an ?_ ?_
  refine an ?_ ?_
  exact rfl
  refine an ?_ ?_
  exact rfl
  refine an ?_ ?_
  exact rfl
  refine an ?_ ?_
  (show ((1:Nat)+(1:Nat)) * (16:Nat)≤(2:Nat) ^ (47:Nat); omega)
  (show (1:Nat)+(1:Nat)≤(2:Nat) ^ (47:Nat); omega)
  refine sd ?_
  refine ca c14_ ?_
  refine sd ?_
  refine sd ?_
  refine sd ?_
  refine sd ?_
  refine sd ?_
  refine sd ?_
  refine ca c6_ ?_
  rotate_left
  (exfalso; omega)
  all_goals first | exact hR _ rfl | skip
 ·have c10_ : CallDet Tryz.prog 10 [.d (.slice 9 (L.hrs H)), .d (.int .i64 N)] [.bool true, .int .i64 0] := by
   have z:=L.c46 H N hHl
   rw [hfr,hp] at z; exact z
  have c12_:CallDet Tryz.prog 12 [.d (.agg [.bool true,.bool false,.slice 2 (L.ods os)]),.d (.slice 9 (L.hrs H)),.d (.int .i64 N),.d (.int .i64 ((F:Nat):Int))] [.slice 1 [.str [112,114,111,116,101,99,116,101,100]],.int .i64 0]:=by
   have z:=L.c57 ⟨true,false,os⟩ H N F (by show os.length≤_; omega) hHl
   rw [hap] at z
   have z:CallDet Tryz.prog 12 [.d (.agg [.bool true,.bool false,.slice 2 (L.ods os)]),.d (.slice 9 (L.hrs H)),.d (.int .i64 N),.d (.int .i64 ((F:Nat):Int))] [.slice 1 (L.strs ((L.w0 (!true)++L.w1 (L.prL H N)++L.w2 (L.few ⟨true,false,os⟩ N F)).map L.Br.w)),.int .i64 0]:=z
   rw [hp,hq] at z; exact z
  have c13_:CallDet Tryz.prog 13 [.d (.agg [.bool true,.bool false,.slice 2 (L.ods os)]),.d (.slice 9 (L.hrs H)),.d (.int .i64 N),.d (.int .i64 ((F:Nat):Int))] [.agg [.bool false,.bool false,.slice 2 []],.int .i64 31]:=by
   have z:=L.c59 ⟨true,false,os⟩ H N F (by show os.length≤_; omega) hHl
   have e:L.opE ⟨true,false,os⟩ H N F=31:=by
    unfold L.opE
    rw [hap]
    show L.firstOf ((L.w0 (!true)++L.w1 (L.prL H N)++L.w2 (L.few ⟨true,false,os⟩ N F)).map L.Br.e)=31
    rw [hp,hq]; rfl
   rw [e] at z; exact z
  have c14_:CallDet Tryz.prog 14 [.d (.slice 1 [.str [112,114,111,116,101,99,116,101,100]]),.d (.slice 1 [.str [112,114,111,116,101,99,116,101,100]])] [.bool true]:=k14 [[112,114,111,116,101,99,116,101,100]] (by decide)
  have hY:¬ Y < 2:=by exact of_decide_eq_false (hYq.trans hq)
  refine ca c11_ ?_
  refine ca c10_ ?_
  refine sd ?_
  refine sd ?_
  refine an ?_ ?_
  refine an ?_ ?_
  exact rfl
  refine an ?_ ?_
  exact rfl
  refine an ?_ ?_
  exact rfl
  refine an ?_ ?_
  (show ((0:Nat)+List.length (L.ods os)) * (24:Nat)≤(2:Nat) ^ (47:Nat); omega)
  (show (0:Nat)+List.length (L.ods os)≤(2:Nat) ^ (47:Nat); omega)
  refine sd ?_
  refine ca c11_ ?_
  refine sd ?_
  refine ca c12_ ?_
  refine ca c11_ ?_
  refine ca c13_ ?_
  refine sd ?_
  refine sd ?_
  refine sd ?_
  refine sd ?_
  refine sd ?_
  refine an ?_ ?_
  refine an ?_ ?_
  (show (1:Nat) * (16:Nat)≤(2:Nat) ^ (47:Nat); omega)
  (show (1:Nat)≤(2:Nat) ^ (47:Nat); omega)
  refine sd ?_
  refine b_lt (fun t1=>?_) (fun t1=>?_)
  (exfalso; omega)
  refine sd ?_
  refine ca c14_ ?_
  refine sd ?_
  refine sd ?_
  refine sd ?_
  refine sd ?_
  refine sd ?_
  refine sd ?_
  refine ca c6_ ?_
  rotate_left
  all_goals first | exact hR _ rfl | skip
 ·have c10_ : CallDet Tryz.prog 10 [.d (.slice 9 (L.hrs H)), .d (.int .i64 N)] [.bool false, .int .i64 0] := by
   have z:=L.c46 H N hHl
   rw [hfr,hp] at z; exact z
  have c12_:CallDet Tryz.prog 12 [.d (.agg [.bool true,.bool false,.slice 2 (L.ods os)]),.d (.slice 9 (L.hrs H)),.d (.int .i64 N),.d (.int .i64 ((F:Nat):Int))] [.slice 1 [.str [111,102,102,105,99,101,115]],.int .i64 0]:=by
   have z:=L.c57 ⟨true,false,os⟩ H N F (by show os.length≤_; omega) hHl
   rw [hap] at z
   have z:CallDet Tryz.prog 12 [.d (.agg [.bool true,.bool false,.slice 2 (L.ods os)]),.d (.slice 9 (L.hrs H)),.d (.int .i64 N),.d (.int .i64 ((F:Nat):Int))] [.slice 1 (L.strs ((L.w0 (!true)++L.w1 (L.prL H N)++L.w2 (L.few ⟨true,false,os⟩ N F)).map L.Br.w)),.int .i64 0]:=z
   rw [hp,hq] at z; exact z
  have c13_:CallDet Tryz.prog 13 [.d (.agg [.bool true,.bool false,.slice 2 (L.ods os)]),.d (.slice 9 (L.hrs H)),.d (.int .i64 N),.d (.int .i64 ((F:Nat):Int))] [.agg [.bool false,.bool false,.slice 2 []],.int .i64 30]:=by
   have z:=L.c59 ⟨true,false,os⟩ H N F (by show os.length≤_; omega) hHl
   have e:L.opE ⟨true,false,os⟩ H N F=30:=by
    unfold L.opE
    rw [hap]
    show L.firstOf ((L.w0 (!true)++L.w1 (L.prL H N)++L.w2 (L.few ⟨true,false,os⟩ N F)).map L.Br.e)=30
    rw [hp,hq]; rfl
   rw [e] at z; exact z
  have c14_:CallDet Tryz.prog 14 [.d (.slice 1 [.str [111,102,102,105,99,101,115]]),.d (.slice 1 [.str [111,102,102,105,99,101,115]])] [.bool true]:=k14 [[111,102,102,105,99,101,115]] (by decide)
  have hY:Y < 2:=by exact of_decide_eq_true (hYq.trans hq)
  refine ca c11_ ?_
  refine ca c10_ ?_
  refine sd ?_
  refine sd ?_
  refine an ?_ ?_
  refine an ?_ ?_
  exact rfl
  refine an ?_ ?_
  exact rfl
  refine an ?_ ?_
  exact rfl
  refine an ?_ ?_
  (show ((0:Nat)+List.length (L.ods os)) * (24:Nat)≤(2:Nat) ^ (47:Nat); omega)
  (show (0:Nat)+List.length (L.ods os)≤(2:Nat) ^ (47:Nat); omega)
  refine sd ?_
  refine ca c11_ ?_
  refine sd ?_
  refine ca c12_ ?_
  refine ca c11_ ?_
  refine ca c13_ ?_
  refine sd ?_
  refine sd ?_
  refine sd ?_
  refine b_lt (fun t1=>?_) (fun t1=>?_)
  refine sd ?_
  refine sd ?_
  refine sd ?_
  refine an ?_ ?_
  refine an ?_ ?_
  (show (1:Nat) * (16:Nat)≤(2:Nat) ^ (47:Nat); omega)
  (show (1:Nat)≤(2:Nat) ^ (47:Nat); omega)
  refine sd ?_
  refine ca c14_ ?_
  refine sd ?_
  refine sd ?_
  refine sd ?_
  refine sd ?_
  refine sd ?_
  refine sd ?_
  refine ca c6_ ?_
  rotate_left
  (exfalso; omega)
  all_goals first | exact hR _ rfl | skip
 ·have c10_ : CallDet Tryz.prog 10 [.d (.slice 9 (L.hrs H)), .d (.int .i64 N)] [.bool false, .int .i64 0] := by
   have z:=L.c46 H N hHl
   rw [hfr,hp] at z; exact z
  have c12_:CallDet Tryz.prog 12 [.d (.agg [.bool true,.bool false,.slice 2 (L.ods os)]),.d (.slice 9 (L.hrs H)),.d (.int .i64 N),.d (.int .i64 ((F:Nat):Int))] [.slice 1 [],.int .i64 0]:=by
   have z:=L.c57 ⟨true,false,os⟩ H N F (by show os.length≤_; omega) hHl
   rw [hap] at z
   have z:CallDet Tryz.prog 12 [.d (.agg [.bool true,.bool false,.slice 2 (L.ods os)]),.d (.slice 9 (L.hrs H)),.d (.int .i64 N),.d (.int .i64 ((F:Nat):Int))] [.slice 1 (L.strs ((L.w0 (!true)++L.w1 (L.prL H N)++L.w2 (L.few ⟨true,false,os⟩ N F)).map L.Br.w)),.int .i64 0]:=z
   rw [hp,hq] at z; exact z
  have c13_:CallDet Tryz.prog 13 [.d (.agg [.bool true,.bool false,.slice 2 (L.ods os)]),.d (.slice 9 (L.hrs H)),.d (.int .i64 N),.d (.int .i64 ((F:Nat):Int))] [.agg [.bool false,.bool false,.slice 2 []],.int .i64 0]:=by
   have z:=L.c59 ⟨true,false,os⟩ H N F (by show os.length≤_; omega) hHl
   have e:L.opE ⟨true,false,os⟩ H N F=0:=by
    unfold L.opE
    rw [hap]
    show L.firstOf ((L.w0 (!true)++L.w1 (L.prL H N)++L.w2 (L.few ⟨true,false,os⟩ N F)).map L.Br.e)=0
    rw [hp,hq]; rfl
   rw [e] at z; exact z
  have c14_:CallDet Tryz.prog 14 [.d (.slice 1 []),.d (.slice 1 [])] [.bool true]:=k14 [] (by decide)
  have hY:¬ Y < 2:=by exact of_decide_eq_false (hYq.trans hq)
  refine ca c11_ ?_
  refine ca c10_ ?_
  refine sd ?_
  refine sd ?_
  refine an ?_ ?_
  refine an ?_ ?_
  exact rfl
  refine an ?_ ?_
  exact rfl
  refine an ?_ ?_
  exact rfl
  refine an ?_ ?_
  (show ((0:Nat)+List.length (L.ods os)) * (24:Nat)≤(2:Nat) ^ (47:Nat); omega)
  (show (0:Nat)+List.length (L.ods os)≤(2:Nat) ^ (47:Nat); omega)
  refine sd ?_
  refine ca c11_ ?_
  refine sd ?_
  refine ca c12_ ?_
  refine ca c11_ ?_
  refine ca c13_ ?_
  refine sd ?_
  refine sd ?_
  refine sd ?_
  refine b_lt (fun t1=>?_) (fun t1=>?_)
  (exfalso; omega)
  refine ca c14_ ?_
  refine sd ?_
  refine sd ?_
  refine sd ?_
  refine ca c15_1 ?_
  refine ca c16_ ?_
  refine ca c15_2 ?_
  refine sd ?_
  refine sd ?_
  refine sd ?_
  refine sd ?_
  refine ca c6_ ?_
  rotate_left
  all_goals first | exact hR _ rfl | skip
end Vc
