import Derived.Test.YtcplcokecclehaaG10
import Derived.Laws.RangeAny
set_option linter.unusedSectionVars false
set_option linter.unusedVariables false
set_option linter.unusedSimpArgs false
set_option maxRecDepth 10000
namespace Vc
open Go Go.Proofs
theorem brk_le {a b:Int} {x y:Prop} (h1:a≤b→x) (h2:¬ a≤b→y):brk (decide (a≤b)) x y :=
 brk_intro (fun h=>h1 (of_decide_eq_true h)) (fun h=>h2 (of_decide_eq_false h))
theorem brk_lt {a b:Int} {x y:Prop} (h1:a < b→x) (h2:¬ a < b→y):brk (decide (a < b)) x y :=
 brk_intro (fun h=>h1 (of_decide_eq_true h)) (fun h=>h2 (of_decide_eq_false h))
theorem brk_eq {a b:Int} {x y:Prop} (h1:a=b→x) (h2:¬ a=b→y):brk (a==b) x y :=
 brk_intro (fun h=>h1 (eq_of_beq h)) (fun h=>h2 (ne_of_beq_false h))
theorem brk_ne {a b:Int} {x y:Prop} (h1:¬ a=b→x) (h2:a=b→y):brk (a != b) x y :=
 brk_intro (fun h=>h1 (by simpa using h)) (fun h=>h2 (by simpa using h))
theorem brk_nle {a b:Int} {x y:Prop} (h1:¬ a≤b→x) (h2:a≤b→y):brk (!(decide (a≤b))) x y :=
 brk_intro (fun h=>h1 (by simpa using h)) (fun h=>h2 (by simpa using h))
structure Stn where
 nm:List UInt8
 pri:Int
 fr:Int
 wt:Int
def Stn.d (x:Stn):Data:=.agg [.str x.nm,.int .i64 x.pri,.int .i64 x.fr,.int .i64 x.wt]
def stns (l:List Stn):List Data:=l.map Stn.d
theorem stns_len (l:List Stn):(stns l).length=l.length:=List.length_map _
def okP (k:Nat) (c:Int):Prop:=(97≤c∧c≤122)∨(65≤c∧c≤90)∨(k≠0∧((48≤c∧c≤57)∨c=95))
instance (k : Nat) (c : Int) : Decidable (okP k c) := by unfold okP; infer_instance
def nmGo:Nat→List UInt8→Bool
 | _,[]=>true
 | k,c::r=>decide (okP k c.toNat)&&nmGo (k+1) r
def isNm (l:List UInt8):Bool:=(l != [])&&(decide ((l.length:Int)≤24)&&nmGo 0 l)
theorem decA_ascii {l:List UInt8} {pos:Nat} {c:UInt8} (h:l[pos]?=some c) (hc:c.toNat < 128):decA l pos=(c.toNat,1):=by
 obtain ⟨hl,e⟩:=List.getElem?_eq_some_iff.1 h
 have e2:((⟨l.toArray⟩:ByteArray)[pos]'hl)=c:=e
 have:=decode_ascii (⟨l.toArray⟩:ByteArray) pos hl (by rw [e2]; exact hc)
 rw [e2] at this
 exact this
theorem decA_high {l:List UInt8} {pos:Nat} {c:UInt8} (h:l[pos]?=some c) (hc:128≤c.toNat):128≤(decA l pos).1∧1≤(decA l pos).2:=by
 obtain ⟨hl,e⟩:=List.getElem?_eq_some_iff.1 h
 have e2:((⟨l.toArray⟩:ByteArray)[pos]'hl)=c:=e
 exact decode_high (⟨l.toArray⟩:ByteArray) pos hl (by rw [e2]; exact hc)
theorem nmGo_at {l:List UInt8} {k:Nat} {c:UInt8} (h:l[k]?=some c):nmGo k (l.drop k)=(decide (okP k c.toNat)&&nmGo (k+1) (l.drop (k+1))):=by
 obtain ⟨hl,e⟩:=List.getElem?_eq_some_iff.1 h
 rw [List.drop_eq_getElem_cons hl,e]; rfl
theorem nm_bad {l:List UInt8} {k:Nat} {c:UInt8} (h:l[k]?=some c) (hi:nmGo 0 l=nmGo k (l.drop k)) (hn:¬ okP k c.toNat):resV [.bool false]=resV [.bool (isNm l)]:=by
 unfold isNm
 rw [hi,nmGo_at h,decide_eq_false hn]; simp
theorem nm_step {l:List UInt8} {k:Nat} {c:UInt8} (h:l[k]?=some c) (hi:nmGo 0 l=nmGo k (l.drop k)) (hn:okP k c.toNat):nmGo 0 l=nmGo (k+1) (l.drop (k+1)):=by
 rw [hi,nmGo_at h,decide_eq_true hn]; rfl
theorem nm_end {l:List UInt8} {k:Nat} (hk:l.length≤k) (hi:nmGo 0 l=nmGo k (l.drop k)):isNm l=((l != [])&&decide ((l.length:Int)≤24)):=by
 unfold isNm
 rw [hi,List.drop_eq_nil_of_le hk]; simp [nmGo]
def ir114:AFun:=⟨51,1,[.tmp 2],
 (.seq
 (.reg [] [⟨some 2,.mov (.cst (.d (.bool false))),none⟩])
 (.seq
 (.seq
 (.reg [0] [⟨some 6,.mov (.tmp 0),none⟩,
 ⟨some 7,.rng 0 (.tmp 6),none⟩])
 (.post [0] [0]
 (.block 0
 (.keep [0,7] [0]
 (.loop
 (.post [0,7] []
 (.seq
 (.reg [] [⟨some 8,.nxt (.tmp 7),none⟩,
 ⟨some 9,.ext 0 (.tmp 8),none⟩])
 (.seq
 (.cond (.tmp 9)
 .skip
 (.exit 0))
 (.block 1
 (.seq
 (.reg [] [⟨some 10,.ext 1 (.tmp 8),none⟩,
 ⟨some 11,.ext 2 (.tmp 8),none⟩,
 ⟨some 3,.mov (.tmp 10),none⟩,
 ⟨some 4,.mov (.tmp 11),none⟩])
 (.seq
 (.reg [] [⟨some 12,.mov (.tmp 4),none⟩,
 ⟨some 13,.cmp .geq (.tmp 12) (.cst (.d (.int .i32 97))),none⟩,
 ⟨some 14,.mov (.tmp 13),none⟩,
 ⟨some 15,.mov (.tmp 4),some (14,true)⟩,
 ⟨some 16,.cmp .leq (.tmp 15) (.cst (.d (.int .i32 122))),some (14,true)⟩,
 ⟨some 17,.pick (.tmp 14) (.tmp 16) (.cst (.d (.bool false))),none⟩,
 ⟨some 18,.mov (.tmp 17),none⟩,
 ⟨some 19,.mov (.tmp 4),some (18,false)⟩,
 ⟨some 20,.cmp .geq (.tmp 19) (.cst (.d (.int .i32 65))),some (18,false)⟩,
 ⟨some 21,.mov (.tmp 20),some (18,false)⟩,
 ⟨some 22,.mov (.tmp 4),some (21,true)⟩,
 ⟨some 23,.cmp .leq (.tmp 22) (.cst (.d (.int .i32 90))),some (21,true)⟩,
 ⟨some 24,.pick (.tmp 21) (.tmp 23) (.cst (.d (.bool false))),some (18,false)⟩,
 ⟨some 25,.pick (.tmp 18) (.cst (.d (.bool true))) (.tmp 24),none⟩,
 ⟨some 5,.mov (.tmp 25),none⟩])
 (.seq
 (.reg [] [⟨some 26,.mov (.tmp 5),none⟩,
 ⟨some 27,.not (.tmp 26),none⟩,
 ⟨some 28,.mov (.tmp 27),none⟩,
 ⟨some 29,.mov (.tmp 3),some (28,true)⟩,
 ⟨some 30,.cmp .eql (.tmp 29) (.cst (.d (.int .i64 0))),some (28,true)⟩,
 ⟨some 31,.mov (.tmp 30),some (28,true)⟩,
 ⟨some 32,.mov (.tmp 4),some (31,false)⟩,
 ⟨some 33,.cmp .neq (.tmp 32) (.cst (.d (.int .i32 95))),some (31,false)⟩,
 ⟨some 34,.mov (.tmp 33),some (31,false)⟩,
 ⟨some 35,.mov (.tmp 4),some (34,true)⟩,
 ⟨some 36,.cmp .lss (.tmp 35) (.cst (.d (.int .i32 48))),some (34,true)⟩,
 ⟨some 37,.mov (.tmp 36),some (34,true)⟩,
 ⟨some 38,.mov (.tmp 4),some (37,false)⟩,
 ⟨some 39,.cmp .gtr (.tmp 38) (.cst (.d (.int .i32 57))),some (37,false)⟩,
 ⟨some 40,.pick (.tmp 37) (.cst (.d (.bool true))) (.tmp 39),some (34,true)⟩,
 ⟨some 41,.pick (.tmp 34) (.tmp 40) (.cst (.d (.bool false))),some (31,false)⟩,
 ⟨some 42,.pick (.tmp 31) (.cst (.d (.bool true))) (.tmp 41),some (28,true)⟩,
 ⟨some 43,.pick (.tmp 28) (.tmp 42) (.cst (.d (.bool false))),none⟩])
 (.cond (.tmp 43)
 (.seq
 (.reg [] [⟨some 2,.mov (.cst (.d (.bool false))),none⟩])
 .ret)
 .skip)))))))))))))
 (.seq
 (.reg [] [⟨some 44,.mov (.tmp 0),none⟩,
 ⟨some 45,.seq true (.tmp 44) (.cst (.d (.str []))),none⟩,
 ⟨some 46,.mov (.tmp 45),none⟩,
 ⟨some 47,.mov (.tmp 0),some (46,true)⟩,
 ⟨some 48,.lens (.tmp 47),some (46,true)⟩,
 ⟨some 49,.cmp .leq (.tmp 48) (.cst (.d (.int .i64 24))),some (46,true)⟩,
 ⟨some 50,.pick (.tmp 46) (.tmp 49) (.cst (.d (.bool false))),none⟩,
 ⟨some 2,.mov (.tmp 50),none⟩])
 .ret)))⟩
set_option maxHeartbeats 4000000 in
theorem c114 (l:List UInt8):CallDet Try.prog 55 [.d (.str l)] [.bool (isNm l)]:=by
 refine call_of_vc (x:=ir114) (by kernel_rfl) rfl ?_
 refine loop_st (fun pos:Nat=>⟨[(0,.d (.str l)),(7,.it 0)],[.sit l pos]⟩)
  (fun pos=>nmGo 0 l=nmGo pos (l.drop pos)) (fun pos=>l.length - pos) 0 rfl rfl ?_
 intro pos hi
 rcases Nat.lt_or_ge pos l.length with hl | hl
 ·refine Exists.elim (⟨_,List.getElem?_eq_getElem hl⟩:∃ x,l[pos]?=some x) fun c hc=>?_
  refine Exists.intro _ (Exists.intro _ (And.intro (Or.inl ⟨hl,rfl,rfl⟩) ?_))
  have hdec:(((decA l pos).1:Int)=(c.toNat:Int)∧(decA l pos).2=1)∨((128:Int)≤((decA l pos).1:Int)∧(128:Int)≤(c.toNat:Int)):=by
   rcases Nat.lt_or_ge c.toNat 128 with h | h
   ·exact .inl (by rw [decA_ascii hc h]; exact ⟨rfl,rfl⟩)
   ·exact .inr (by have:=(decA_high hc h).1; omega)
  have bad:¬ okP pos ((decA l pos).1:Int)→resV [.bool false]=resV [.bool (isNm l)]:=fun h=>nm_bad hc hi (by unfold okP at *; omega)
  have good:okP pos ((decA l pos).1:Int)→∃ a',(nmGo 0 l=nmGo a' (l.drop a')∧l.length - a' < l.length - pos)∧(⟨[(0,.d (.str l)),(7,.it 0)],[.sit l (((pos+(decA l pos).2:Nat):Int)).toNat]⟩:St)=⟨[(0,.d (.str l)),(7,.it 0)],[.sit l a']⟩:=fun h=>by
   have h2:((decA l pos).1:Int)=(c.toNat:Int)∧(decA l pos).2=1:=by
    rcases hdec with h3 | h3
    ·exact h3
    ·unfold okP at h; omega
   rw [h2.2]
   rw [h2.1] at h
   exact ⟨pos+1,⟨nm_step hc hi h,by omega⟩,rfl⟩
  generalize hr:((decA l pos).1:Int)=r at *
  clear hdec
  refine And.intro rfl ?_
  refine brk_le (fun t1=>?_) (fun t1=>?_)
  ·refine And.intro rfl ?_
   refine brk_le (fun t2=>?_) (fun t2=>?_)
   ·refine And.intro rfl ?_
    refine And.intro rfl ?_
    exact good (by unfold okP; omega)
   ·refine And.intro rfl ?_
    refine brk_le (fun t3=>?_) (fun t3=>?_)
    ·refine And.intro rfl ?_
     refine brk_nle (fun t4=>?_) (fun t4=>?_)
     ·refine And.intro rfl ?_
      refine brk_eq (fun t5=>?_) (fun t5=>?_)
      ·refine And.intro rfl ?_
       exact bad (by unfold okP; omega)
      ·refine And.intro rfl ?_
       refine brk_ne (fun t6=>?_) (fun t6=>?_)
       ·refine And.intro rfl ?_
        refine brk_lt (fun t7=>?_) (fun t7=>?_)
        ·refine And.intro rfl ?_
         exact bad (by unfold okP; omega)
        ·refine And.intro rfl ?_
         refine brk_lt (fun t8=>?_) (fun t8=>?_)
         ·exact bad (by unfold okP; omega)
         ·exact good (by unfold okP; omega)
       ·refine And.intro rfl ?_
        exact good (by unfold okP; omega)
     ·refine And.intro rfl ?_
      exact good (by unfold okP; omega)
    ·refine And.intro rfl ?_
     refine And.intro rfl ?_
     refine brk_eq (fun t9=>?_) (fun t9=>?_)
     ·refine And.intro rfl ?_
      exact bad (by unfold okP; omega)
     ·refine And.intro rfl ?_
      refine brk_ne (fun t10=>?_) (fun t10=>?_)
      ·refine And.intro rfl ?_
       refine brk_lt (fun t11=>?_) (fun t11=>?_)
       ·refine And.intro rfl ?_
        exact bad (by unfold okP; omega)
       ·refine And.intro rfl ?_
        refine brk_lt (fun t12=>?_) (fun t12=>?_)
        ·exact bad (by unfold okP; omega)
        ·exact good (by unfold okP; omega)
      ·refine And.intro rfl ?_
       exact good (by unfold okP; omega)
  ·refine And.intro rfl ?_
   refine And.intro rfl ?_
   refine brk_le (fun t13=>?_) (fun t13=>?_)
   ·refine And.intro rfl ?_
    refine brk_nle (fun t14=>?_) (fun t14=>?_)
    ·refine And.intro rfl ?_
     refine brk_eq (fun t15=>?_) (fun t15=>?_)
     ·refine And.intro rfl ?_
      exact bad (by unfold okP; omega)
     ·refine And.intro rfl ?_
      refine brk_ne (fun t16=>?_) (fun t16=>?_)
      ·refine And.intro rfl ?_
       refine brk_lt (fun t17=>?_) (fun t17=>?_)
       ·refine And.intro rfl ?_
        exact bad (by unfold okP; omega)
       ·refine And.intro rfl ?_
        refine brk_lt (fun t18=>?_) (fun t18=>?_)
        ·exact bad (by unfold okP; omega)
        ·exact good (by unfold okP; omega)
      ·refine And.intro rfl ?_
       exact good (by unfold okP; omega)
    ·refine And.intro rfl ?_
     exact good (by unfold okP; omega)
   ·refine And.intro rfl ?_
    refine And.intro rfl ?_
    refine brk_eq (fun t19=>?_) (fun t19=>?_)
    ·refine And.intro rfl ?_
     exact bad (by unfold okP; omega)
    ·refine And.intro rfl ?_
     refine brk_ne (fun t20=>?_) (fun t20=>?_)
     ·refine And.intro rfl ?_
      refine brk_lt (fun t21=>?_) (fun t21=>?_)
      ·refine And.intro rfl ?_
       exact bad (by unfold okP; omega)
      ·refine And.intro rfl ?_
       refine brk_lt (fun t22=>?_) (fun t22=>?_)
       ·exact bad (by unfold okP; omega)
       ·exact good (by unfold okP; omega)
     ·refine And.intro rfl ?_
      exact good (by unfold okP; omega)
 ·refine Exists.intro _ (Exists.intro _ (And.intro (Or.inr ⟨hl,rfl,rfl⟩) ?_))
  have e:=nm_end hl hi
  have fin:∀ b:Bool,isNm l=b→resV [.bool b]=resV [.bool (isNm l)]:=fun b h=>by rw [h]
  refine brk_intro ?_ ?_
  ·intro h
   have h:(l != [])=true:=h
   refine And.intro rfl ?_
   exact fin _ (by rw [e,h]; rfl)
  ·intro h
   have h:(l != [])=false:=h
   refine And.intro rfl ?_
   exact fin _ (by rw [e,h]; rfl)
end Vc
