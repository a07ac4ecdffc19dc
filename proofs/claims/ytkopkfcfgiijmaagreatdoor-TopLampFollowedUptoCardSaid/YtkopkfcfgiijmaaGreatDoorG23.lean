import Derived.Test.YtkopkfcfgiijmaaGreatDoorG21
import Derived.Test.YtkopkfcfgiijmaaGreatDoorG06
import Derived.Test.YtkopkfcfgiijmaaGreatDoorG19
set_option linter.unusedSectionVars false
set_option linter.unusedVariables false
set_option linter.unusedSimpArgs false
namespace Vc
open Go Go.Proofs
theorem int_fit {k:IntKind} {r:List CT} {ds:List Data} (h:Fits' (.int k::r) ds):∃ n t,ds=.int k n::t∧(Lit.int k n).wf=true∧Fits' r t:=by
 simp only [Fits',Fit] at h
 obtain ⟨d,t,rfl,⟨n,rfl,hn⟩,ht⟩:=h
 exact ⟨n,t,rfl,hn,ht⟩
theorem i64_fit {r:List CT} {ds:List Data} (h:Fits' (.int .i64::r) ds):∃ (n:Int) (t:List Data),ds=.int .i64 n::t∧(-9223372036854775808≤n∧n≤9223372036854775807)∧Fits' r t:=by
 obtain ⟨n,t,rfl,hn,ht⟩:=int_fit h
 refine ⟨n,t,rfl,?_,ht⟩
 simp [Lit.wf] at hn
 have h1:IntKind.i64.min=-9223372036854775808:=rfl
 have h2:IntKind.i64.max=9223372036854775807:=rfl
 omega
theorem str_fit {r:List CT} {ds:List Data} (h:Fits' (.str::r) ds):∃ b t,ds=.str b::t∧Fits' r t:=by
 simp only [Fits',Fit] at h
 obtain ⟨d,t,rfl,⟨b,rfl⟩,ht⟩:=h
 exact ⟨b,t,rfl,ht⟩
theorem fits_nil {ds:List Vc.Data} (h:Fits' [] ds):ds=[]:=by simpa only [Fits'] using h
theorem strs_fit:∀ {es:List Data},(∀ e∈es,Fits' [.str] [e])→∃ l:List (List UInt8),es=strs l
 | [],_=>⟨[],rfl⟩
 | e::r,h=>by
  obtain ⟨c,t,h1,_⟩:=str_fit (h e List.mem_cons_self)
  obtain ⟨b,rfl⟩:=strs_fit (es:=r) fun x hx=>h x (List.mem_cons_of_mem _ hx)
  cases h1
  exact ⟨c::b,rfl⟩
theorem strl_fit {r:List CT} {ds:List Data} (h:Fits' (.sl false [.str]::r) ds):∃ (b:List (List UInt8)) (t:List Data),ds=.slice 1 (strs b)::t∧Fits' r t:=by
 simp only [Fits'] at h
 obtain ⟨d,t,rfl,hd,ht⟩:=h
 simp only [Fit] at hd
 obtain ⟨es,rfl,he⟩:=hd
 obtain ⟨b,rfl⟩:=strs_fit (es:=es) fun e h=>by
  have:=he e h
  simpa [Fits',Fit] using this
 exact ⟨b,t,rfl,ht⟩
theorem lks_fit:∀ {es:List Data},(∀ e∈es,∃ ds,e=.agg ds∧Fits' [.int .i64,.int .i64,.int .i64] ds)→∃ l:List Lk,es=lks l
 | [],_=>⟨[],rfl⟩
 | e::r,h=>by
  obtain ⟨ds,rfl,hd⟩:=h e List.mem_cons_self
  obtain ⟨a,t1,rfl,_,h1⟩:=i64_fit hd
  obtain ⟨b,t2,rfl,_,h2⟩:=i64_fit h1
  obtain ⟨c,t3,rfl,_,h3⟩:=i64_fit h2
  obtain rfl:=fits_nil h3
  obtain ⟨l,rfl⟩:=lks_fit (es:=r) fun x hx=>h x (List.mem_cons_of_mem _ hx)
  exact ⟨⟨a,b,c⟩::l,rfl⟩
theorem lkl_fit {r:List CT} {ds:List Data} (h:Fits' (.sl true [.int .i64,.int .i64,.int .i64]::r) ds):∃ (l:List Lk) (t:List Data),ds=.slice 3 (lks l)::t∧Fits' r t:=by
 simp only [Fits'] at h
 obtain ⟨d,t,rfl,hd,ht⟩:=h
 simp only [Fit] at hd
 obtain ⟨es,rfl,he⟩:=hd
 obtain ⟨l,rfl⟩:=lks_fit (es:=es) fun e h=>by
  obtain ⟨ds,h1,h2⟩:=he e h
  exact ⟨ds,h1,by simpa only [Fits'] using h2⟩
 exact ⟨l,t,rfl,ht⟩
theorem ms_fit {ds:List Data} (h:Fits' [.sl false [.str],.sl true [.int .i64,.int .i64,.int .i64]] ds):∃ m:Ms,Data.agg ds=m.d:=by
 obtain ⟨a,t1,rfl,h1⟩:=strl_fit h
 obtain ⟨b,t2,rfl,h2⟩:=lkl_fit h1
 obtain rfl:=fits_nil h2
 exact ⟨⟨a,b⟩,rfl⟩
theorem wgts_strs:∀ (l:List (List UInt8)),l.length≤wgts (strs l)
 | []=>Nat.zero_le _
 | s::r=>by
  have h:=wgts_strs r
  have e:wgts (strs (s::r))=(s.length+1)+wgts (strs r):=rfl
  rw [e]; simp only [List.length_cons]; omega
theorem wgts_lks:∀ (l:List Lk),l.length≤wgts (lks l)
 | []=>Nat.zero_le _
 | x::r=>by
  have h:=wgts_lks r
  have e:wgts (lks (x::r))=(1+(1+(1+0)))+wgts (lks r):=rfl
  rw [e]; simp only [List.length_cons]; omega
theorem wgt_ms (m:Ms):m.ns.length≤wgt m.d∧m.ls.length≤wgt m.d:=by
 have e:wgt m.d=(wgts (strs m.ns)+1)+((wgts (lks m.ls)+1)+0):=rfl
 have h1:=wgts_strs m.ns
 have h2:=wgts_lks m.ls
 omega
theorem u8_fit {r:List CT} {ds:List Data} (h:Fits' (.int .u8::r) ds):∃ (n:Int) (t:List Data),ds=.int .u8 n::t∧(0≤n∧n≤255)∧Fits' r t:=by
 obtain ⟨n,t,rfl,hn,ht⟩:=int_fit h
 refine ⟨n,t,rfl,?_,ht⟩
 simp [Lit.wf] at hn
 have h1:IntKind.u8.min=0:=rfl
 have h2:IntKind.u8.max=255:=rfl
 omega
end Vc
set_option maxRecDepth 10000
namespace Vc.L
open Go Go.Proofs
def sW (q:List Fr) (w:Nat):Sn:=⟨q,0,w⟩
theorem sf_self (l:List Fr):sameFrames l l=true:=by
 induction l with
 | nil=>rfl
 | cons f r ih=>simp [sameFrames,ih,Fr.same]
theorem sW_chk {q:List Fr} {w:Nat} (hq:checkFrames q=0) (hw:1≤w∧w≤8):chkSn (sW q w)=0:=by
 refine first_zeros fun e he=>?_
 simp only [List.mem_cons,List.not_mem_nil,or_false] at he
 rcases he with rfl | rfl | rfl
 ·exact hq
 ·show within3 (0:Int) 0 (frs q).length=0
  rw [frs_len]
  unfold within3; rw [decide_eq_false (by omega),decide_eq_false (by omega)]; rfl
 ·show within3 (w:Int) 1 8=0
  unfold within3; rw [decide_eq_false (by omega),decide_eq_false (by omega)]; rfl
theorem inW_zero (s:Sn):inW s (0,0):=⟨Nat.le_refl _,Nat.zero_le _⟩
theorem fits_in {q:List Fr} {w a t:Nat} (h:inW (sW q w) (a,t)):fitsB (sAt (sW q w) a) (rAt (sW q w) t)=true:=by
 obtain ⟨h1,h2⟩:=h
 have h1:a≤t:=h1
 have h2:t≤min q.length (a+(w:Int).toNat):=h2
 have e:fitsB (sAt (sW q w) a) (rAt (sW q w) t)=(decide ((a:Int)≤(t:Int))&&(decide ((t:Int)≤min ((frs q).length:Int) ((a:Int)+(w:Int)))&&sameFrames (q.take t) (q.take (t:Int).toNat))):=rfl
 rw [e,frs_len,decide_eq_true (by omega),decide_eq_true (by omega),show (t:Int).toNat=t from rfl,sf_self]; rfl
theorem lim_w (q:List Fr) (w a:Nat):lim (sW q w) a=min q.length (a+w):=rfl
theorem rT_none {x:Rd} (hx:x.lost=[]) (a t:Nat) (h:a≤t):∀ j:Nat,rT x a t j=max t (a+j)
 | 0=>by show t=_; omega
 | j+1=>by
  show stepJ x a (rT x a t j) j=_
  rw [rT_none hx a t h j]
  unfold stepJ
  rw [hx]
  show (bif a+j==max t (a+j) then max t (a+j)+1 else max t (a+j))=_
  rcases Bool.eq_false_or_eq_true (a+j==max t (a+j)) with e | e
  ·rw [e]; have:=eq_of_beq e; show max t (a+j)+1=_; omega
  ·rw [e]
   have e:a+j≠max t (a+j):=ne_of_beq_false e
   show max t (a+j)=_; omega
theorem rnd_calm {q:List Fr} {w:Nat} {p:Nat × Nat} {x:Rd} (h:inW (sW q w) p) (hx:x.lost=[]):(rnd (sW q w) p x).2=min q.length (p.1+w):=by
 obtain ⟨a,t⟩:=p
 obtain ⟨h1,h2⟩:=h
 have h1:a≤t:=h1
 have h2:t≤min q.length (a+w):=h2
 show rT x a t (lim (sW q w) a - a)=min q.length (a+w)
 rw [rT_none hx a t h1,lim_w]
 omega
theorem rnd_deaf {s:Sn} {p:Nat × Nat} {x:Rd} (hx:x.deaf=false):(rnd s p x).1=(rnd s p x).2:=by
 unfold rnd; rw [hx]; rfl
def calmR:Rd:=⟨[],[],false⟩
theorem rnd_calm2 {q:List Fr} {w:Nat} {p:Nat × Nat} (h:inW (sW q w) p):rnd (sW q w) p calmR=(min q.length (p.1+w),min q.length (p.1+w)):=by
 have h1:=rnd_calm (x:=calmR) h rfl
 have h2:=rnd_deaf (s:=sW q w) (p:=p) (x:=calmR) rfl
 rw [← Prod.eta (rnd (sW q w) p calmR),h2,h1]
theorem calm_fold {q:List Fr} {w:Nat}:∀ (m:Nat) {p:Nat × Nat},inW (sW q w) p→1≤m→(List.replicate m calmR).foldl (rnd (sW q w)) p=(min q.length (p.1+m * w),min q.length (p.1+m * w))
 | 0,_,_,h=>by omega
 | m+1,p,h,_=>by
  rw [List.replicate_succ,List.foldl_cons,rnd_calm2 h]
  rcases Nat.eq_zero_or_pos m with e | e
  ·subst e; simp
  ·have hi:inW (sW q w) (min q.length (p.1+w),min q.length (p.1+w)):=by rw [← rnd_calm2 h]; exact (rnd_in h).1
   rw [calm_fold m hi e,Nat.add_mul]
   show (min q.length (min q.length (p.1+w)+m * w),_)=_
   have:min q.length (min q.length (p.1+w)+m * w)=min q.length (p.1+(m * w+1 * w)):=by omega
   rw [this]
end Vc.L
set_option maxRecDepth 10000
namespace Vc
open Go Go.Proofs
structure Calm (m:Ms) (y:Sts) (N:Int):Prop where
 g:Good m y
 dist:m.dist y.co=told m.ns.length N (fun v=>y.at v)
 next:∀ v:Nat,v < m.ns.length→(y.at v).nu=N→(v:Int)≠y.co→∃ (u:Nat) (c:Int),u < m.ns.length∧dir m.ls u v c∧(y.at v).ne=(u:Int)∧(y.at u).nu=N∧(y.at v).di=(y.at u).di+c
theorem rest_is {m:Ms} {x:Sts} (g:Good m x):x.allP m=x.rounds m (m.ns.length - 1):=by
 have h:=g.K_is
 have e:=rounds_stay h.1 (m.ns.length - 1 - x.K m)
 unfold Sts.allP
 rw [← e]; congr 1; omega
theorem calm_of {m:Ms} {x:Sts} {N:Int} (g:Good m x) (hco:x.at x.co=⟨N,0,x.co⟩) (hold:∀ v:Nat,v < m.ns.length→(v:Int)≠x.co→(x.at v).nu < N):Calm m (x.allP m) N:=by
 have hc:=g.co
 have hb:Beac m.ns.length x.co.toNat m.ls N (fun k v=>(x.rounds m k).at v) :=
  {
   w:=g.waves
   fn:=by omega
   n32:=(chk_fine g.chk).n32
   okIn:=(chk_fine g.chk).okIn
   co:=by
    have ec:((x.co.toNat:Nat):Int)=x.co:=by omega
    show x.at ((x.co.toNat:Nat):Int)=⟨N,0,((x.co.toNat:Nat):Int)⟩
    rw [ec]; exact hco
   old:=fun v hv hne=>hold v hv (by omega) }
 have hfix:∀ v,v < m.ns.length→(fun k v=>(x.rounds m k).at v:Nat→Nat→En) (m.ns.length - 1+1) v=(fun k v=>(x.rounds m k).at v:Nat→Nat→En) (m.ns.length - 1) v:=fun v _=>by
  show (x.rounds m (m.ns.length - 1+1)).at v=(x.rounds m (m.ns.length - 1)).at v
  rw [g.rest (by omega)]
 have hyc:(x.rounds m (m.ns.length - 1)).co=x.co:=rounds_co m _ _
 rw [rest_is g]
 refine ⟨g.rounds _,?_,fun v hv hnu hne=>?_⟩
 ·rw [hyc]; exact hb.dist hfix
 ·rw [hyc] at hne
  exact hb.next hfix hv hnu (by omega)
theorem calm_begun {m:Ms} {f:Int} (hc:m.chk=0) (h0:0≤f) (h1:f < (m.ns.length:Int)):Calm m (m.rest f) 1:=by
 have g:=Good.begun hc h0 h1
 refine calm_of g ?_ fun v hv hne=>?_
 ·show (m.begun f).at f=⟨1,0,f⟩
  rw [begun_at h0 h1 h0 h1,if_pos rfl]
 ·have hne:(v:Int)≠f:=hne
  rw [begun_at h0 h1 (by omega) (by omega),if_neg hne]; show (0:Int) < 1; omega
theorem calm_beaced {m:Ms} {s:Sts} (g:Good m s) (hn:s.nu < 1000000):Calm m (s.beac.allP m) (s.nu+1):=by
 have hc:=g.co
 refine calm_of (g.beac hn).1 ?_ fun v hv hne=>?_
 ·show s.beac.at s.co=⟨s.nu+1,0,s.co⟩
  rw [beac_at g hc.1,if_pos rfl]
 ·have hne:(v:Int)≠s.co:=hne
  rw [beac_at g (by omega),if_neg hne]
  have:=(g.rng v (by omega) (by omega)).1.2
  omega
section
variable {m : Ms} {y : Sts} {N : Int} (h : Calm m y N)
include h
theorem Calm.nn {v:Nat} (h0:0≤at0 (m.dist y.co) v):v < m.ns.length∧(y.at v).nu=N∧at0 (m.dist y.co) v=(y.at v).di:=by
 rw [h.dist] at h0 ⊢
 have e:at0 (told m.ns.length N (fun v=>y.at v)) v=if v < m.ns.length then (if (y.at v).nu=N then (y.at v).di else -1) else -1:=at0_range _ _ v
 rw [e] at h0 ⊢
 by_cases h1:v < m.ns.length
 ·rw [if_pos h1] at h0 ⊢
  by_cases h2:(y.at v).nu=N
  ·rw [if_pos h2] at h0 ⊢; exact ⟨h1,h2,rfl⟩
  ·rw [if_neg h2] at h0; omega
 ·rw [if_neg h1] at h0; omega
theorem Calm.way : ∀ (F v : Nat), v < m.ns.length → (y.at v).nu = N → rkS m.ns.length y v < F →
  ∃ t,wayN (nes y.es) F v=(v:Int)::t∧((v:Int)::t).getLast?=some y.co∧(∀ x∈(v:Int)::t,0≤x∧x < (m.ns.length:Int))∧(∀ q,costG m v t q=(q+(y.at v).di,0)) ∧
   (∀ x∈t,rkS m.ns.length y x < rkS m.ns.length y v)∧((v:Int)::t).Nodup∧(∀ (i:Nat) a b,((v:Int)::t)[i]?=some a→((v:Int)::t)[i+1]?=some b→0 < betw m.ls a b)
 | 0,v,_,_,hF=>by omega
 | F+1,v,hv,hnu,hF=>by
  have gc:=h.g
  have hl:=gc.len
  have hc:=gc.co
  have ee:at0 (nes y.es) ((v:Int)).toNat=(y.at v).ne:=nes_at (by omega) (by omega)
  by_cases e:(v:Int)=y.co
  ·have h0:y.at v=⟨y.nu,0,y.co⟩:=by rw [e]; exact gc.coE
   rw [h0] at ee ⊢
   refine ⟨[],by rw [wayN_stop (by omega) (.inr (by rw [ee]; exact e.symm))],by rw [e]; rfl,fun x hx=>?_,fun q=>?_,(fun x hx=>by cases hx),List.nodup_cons.2 ⟨List.not_mem_nil,List.nodup_nil⟩,fun i a b _ hb=>?_⟩
   ·rw [List.mem_singleton] at hx; omega
   ·rw [costG]; show (q,(0:Int))=(q+0,0); rw [Int.add_zero]
   ·simp at hb
  ·obtain ⟨u,c,hu,hd,hne,hun,hdi⟩:=h.next v hv hnu e
   have hb:=(chk_fine gc.chk).betw_dir.1 hd
   have hrk:=gc.rk_lt (a:=(v:Int)) (by omega) (by omega) e (by omega)
   rw [hne] at hrk
   rw [hne] at ee
   have huv:u≠v:=fun k=>by subst k; omega
   obtain ⟨t,e1,e2,e3,e4,e5,e6,e7⟩:=Calm.way F u hu hun (by omega)
   have h5:∀ x∈(u:Int)::t,rkS m.ns.length y x < rkS m.ns.length y v:=fun x hx=>by
    rcases List.mem_cons.1 hx with rfl | hx
    ·exact hrk
    ·have:=e5 x hx; omega
   refine ⟨(u:Int)::t,?_,?_,fun x hx=>?_,fun q=>?_,h5,?_,fun i a b ha hb2=>?_⟩
   ·rw [wayN_go (by omega) (by omega) (by omega),ee,e1]
   ·rw [← e2]; rfl
   ·rcases List.mem_cons.1 hx with rfl | hx
    ·omega
    ·exact e3 x hx
   ·rw [costG,betw_comm,← hb.1,show (c==0)=false by rw [beq_eq_false_iff_ne]; omega]
    show costG m u t (q+c)=_
    rw [e4,hdi]
    refine congrArg (fun z=>(z,(0:Int))) ?_
    omega
   ·rw [List.nodup_cons]
    exact ⟨fun hm=>absurd (h5 _ hm) (Nat.lt_irrefl _),e6⟩
   ·cases i with
    | zero =>
     simp only [List.getElem?_cons_zero,Option.some.injEq] at ha
     simp only [Nat.zero_add,List.getElem?_cons_succ,List.getElem?_cons_zero,Option.some.injEq] at hb2
     subst ha; subst hb2
     rw [betw_comm,← hb.1]; exact hb.2
    | succ i =>
     rw [List.getElem?_cons_succ] at ha hb2
     exact e7 i a b ha hb2
theorem Calm.way_dist:∀ (F v:Nat),v < m.ns.length→(wayN (nes y.es) F v).getLast?=some y.co→0≤at0 (m.dist y.co) v
 | 0,v,_,hw=>by cases hw
 | F+1,v,hv,hw=>by
  have gc:=h.g
  have hl:=gc.len
  have hc:=gc.co
  have fi:=chk_fine gc.chk
  by_cases e:(v:Int)=y.co
  ·have hz:=(fi.distOk hc.1 hc.2).zero
   rw [show v=y.co.toNat by omega,hz]; exact Int.le_refl _
  ·have ee:at0 (nes y.es) ((v:Int)).toNat=(y.at v).ne:=nes_at (by omega) (by omega)
   by_cases h1:at0 (nes y.es) ((v:Int)).toNat < 0∨at0 (nes y.es) ((v:Int)).toNat=(v:Int)
   ·rw [wayN_stop (by omega) h1] at hw
    exact absurd (Option.some.inj hw) e
   ·rw [wayN_go (by omega) (by omega) (by omega),ee] at hw
    have r:=gc.rng v (by omega) (by omega)
    have hnn:(y.at v).ne≠-1:=by omega
    have k:=gc.nxt (a:=(v:Int)) (by omega) (by omega) e hnn
    have eu:(((y.at v).ne.toNat:Nat):Int)=(y.at v).ne:=by omega
    cases hq:wayN (nes y.es) F (y.at v).ne with
    | nil=>rw [hq] at hw; exact absurd (Option.some.inj hw) e
    | cons a b =>
     have h2:(wayN (nes y.es) F (y.at v).ne).getLast?=some y.co:=by
      rw [hq] at hw ⊢; rw [← hw]; rfl
     rw [← eu] at h2
     have ih:=Calm.way_dist F _ (by omega) h2
     refine (dir_step (fi.distCalm hc.1 hc.2) (fi.betw_dir.2 ⟨rfl,?_⟩) ih).1
     rw [eu,betw_comm]; exact k.2.2.2.1
theorem Calm.isR {v:Nat} (hv:v < m.ns.length):y.isR v=decide (0≤at0 (m.dist y.co) v):=by
 have gc:=h.g
 have hl:=gc.len
 have hnl:=nes_len y.es
 unfold Sts.isR wayB
 by_cases hd:0≤at0 (m.dist y.co) v
 ·rw [decide_eq_true hd]
  obtain ⟨h1,h2,h3⟩:=h.nn hd
  obtain ⟨t,e1,e2,_⟩:=h.way (nes y.es).length v hv h2 (by rw [hnl,hl]; exact rkS_lt _ (by omega) (by omega))
  rw [e1,e2]; exact beq_self_eq_true _
 ·rw [decide_eq_false hd]
  cases hw:(wayN (nes y.es) (nes y.es).length v).getLast? with
  | none=>rfl
  | some x =>
   show (x==y.co)=false
   rw [beq_eq_false_iff_ne]
   intro e
   subst e
   exact hd (h.way_dist _ v hv hw)
theorem Calm.route {v : Nat} (hd : 0 ≤ at0 (m.dist y.co) v) : ∃ t, y.way v = (v : Int) :: t ∧ ((v : Int) :: t).getLast? = some y.co ∧ m.costP ((v : Int) :: t) = (at0 (m.dist y.co) v, 0) ∧ ((v : Int) :: t).length ≤ m.ns.length ∧ (∀ x ∈ (v : Int) :: t, 0 ≤ x ∧ x < (m.ns.length : Int)) ∧
  ((v:Int)::t).Nodup∧(∀ (i:Nat) a b,((v:Int)::t)[i]?=some a→((v:Int)::t)[i+1]?=some b→0 < betw m.ls a b):=by
 have gc:=h.g
 have hl:=gc.len
 have hnl:=nes_len y.es
 have fi:=chk_fine gc.chk
 obtain ⟨h1,h2,h3⟩:=h.nn hd
 obtain ⟨t,e1,e2,e3,e4,_,e6,e7⟩:=h.way (nes y.es).length v h1 h2 (by rw [hnl,hl]; exact rkS_lt _ (by omega) (by omega))
 have hlen:=wayN_len (nes y.es) (nes y.es).length v
 have h32:=fi.n32
 rw [e1] at hlen
 refine ⟨t,e1,e2,?_,by omega,e3,e6,e7⟩
 have hE:costE m ((v:Int)::t)=0:=by
  unfold costE
  have hne:((((v:Int)::t).length:Int)==0)=false:=by rw [beq_eq_false_iff_ne,List.length_cons]; omega
  rw [hne,decide_eq_false (by omega),firstOf_cons,firstOf_cons,firstOf_cons]
  have hz:firstOf (((v:Int)::t).map m.nodeE)=0:=firstOf_all fun x hx=>by
   obtain ⟨z,hz,rfl⟩:=List.mem_map.1 hx
   have:=e3 z hz
   unfold Ms.nodeE outN
   rw [decide_eq_false (by omega),decide_eq_false (by omega)]; rfl
  rw [hz]; rfl
 unfold Ms.costP
 rw [gc.chk]
 show m.cost _=_
 unfold Ms.cost
 rw [hE]
 show costG m v t 0=_
 rw [e4,h3,Int.zero_add]
end
theorem dist_sym {m:Ms} (h:m.fine) {a b:Int} (ha:0≤a∧a < (m.ns.length:Int)) (hb:0≤b∧b < (m.ns.length:Int)):∀ (t:Nat) (i:Nat),0≤at0 (m.dist b) i→at0 (m.dist b) i≤t→0≤at0 (m.dist a) i→0≤at0 (m.dist a) b.toNat
 | t,i,h0,ht,hi=>by
  by_cases e:i=b.toNat
  ·rw [← e]; exact hi
  ·obtain ⟨x,c,hd,hx0,hx⟩:=h.distTight hb.1 hb.2 i e h0
   have hc:1≤c:=by
    obtain ⟨l,hl,rfl,_⟩:=hd
    exact (h.okIn l hl).2.2.1
   have hd2:dir m.ls i x c:=by
    obtain ⟨l,hl,hc,ho⟩:=hd
    exact ⟨l,hl,hc,ho.elim (fun h=>.inr ⟨h.2,h.1⟩) (fun h=>.inl ⟨h.2,h.1⟩)⟩
   have hx2:=(dir_step (h.distCalm ha.1 ha.2) hd2 hi).1
   cases t with
   | zero=>omega
   | succ t=>exact dist_sym h ha hb t x hx0 (by omega) hx2
theorem reach_sym {m:Ms} (h:m.fine) {a b:Int} (ha:0≤a∧a < (m.ns.length:Int)) (hb:0≤b∧b < (m.ns.length:Int)):0≤at0 (m.dist b) a.toNat→0≤at0 (m.dist a) b.toNat:=fun h0 =>
 dist_sym h ha hb (at0 (m.dist b) a.toNat).toNat a.toNat h0 (by omega) (by rw [(h.distOk ha.1 ha.2).zero]; exact Int.le_refl _)
theorem hop_all {q:List L.Fr} {l:List (Int × Int × Bool)} (hq:L.checkFrames q=0) (hq4:q.length≤4) (hl:l.length≤4):L.exP ⟨q,0,4⟩ ⟨0,[]⟩ (rdsH l)=(⟨q,q.length,4⟩,⟨q.length,q⟩,0):=by
 have hs:L.chkSn (L.sW q 4)=0:=L.sW_chk hq ⟨by decide,by decide⟩
 have hr:L.chkRc ⟨0,[]⟩=0:=rfl
 have hrl:(rdsH l).length=l.length+3:=by unfold rdsH; rw [List.length_append,List.length_map]; rfl
 have hb:∀ v:Int,L.chkIx (bitsN v 4)=0:=fun v=>by
  unfold L.chkIx
  refine L.first_zeros fun e he=>?_
  obtain ⟨i,hi,rfl⟩:=List.mem_map.1 he
  have hi2:∀ k,i∈bitsN v k→0≤i∧i < (k:Int):=fun k=>by
   induction k with
   | zero=>intro h; cases h
   | succ k ih =>
    intro h
    rw [bitsN] at h
    rcases List.mem_append.1 h with h | h
    ·have:=ih h; omega
    ·cases hbb:bitB v k <;> rw [hbb] at h
     ·cases h
     ·have h:i∈[(k:Int)]:=h
      rw [List.mem_singleton] at h; omega
  have:=hi2 4 hi
  unfold L.in7 L.within3
  rw [decide_eq_false (by omega),decide_eq_false (by omega)]; rfl
 have hc:L.chkRds (rdsH l)=0:=by
  unfold L.chkRds
  rw [decide_eq_false (by omega)]
  show L.firstOf _=0
  refine L.first_zeros fun e he=>?_
  obtain ⟨x,hx,rfl⟩:=List.mem_map.1 he
  unfold rdsH at hx
  rcases List.mem_append.1 hx with hx | hx
  ·obtain ⟨z,_,rfl⟩:=List.mem_map.1 hx
   unfold L.Rd.chk rdH
   rw [hb,hb]; rfl
  ·simp only [List.mem_cons,List.not_mem_nil,or_false] at hx
   rcases hx with rfl | rfl | rfl <;> rfl
 have hE:L.exE ⟨q,0,4⟩ ⟨0,[]⟩ (rdsH l)=0:=by
  unfold L.exE
  have hs:L.chkSn ⟨q,0,4⟩=0:=hs
  rw [hs,hr,hc]; rfl
 have hfit:L.fitsB ⟨q,0,4⟩ ⟨0,[]⟩=true:=L.fits_in (q:=q) (w:=4) (L.inW_zero _)
 have hA:L.exA ⟨q,0,4⟩ ⟨0,[]⟩ (rdsH l)=(q.length,q.length):=by
  unfold L.exA rdsH
  rw [List.foldl_append]
  show (List.replicate 3 L.calmR).foldl (L.rnd (L.sW q 4)) ((l.map rdH).foldl (L.rnd (L.sW q 4)) (0,0))=_
  rw [L.calm_fold 3 (L.fold_in (l.map rdH) (L.inW_zero _)) (by decide)]
  rw [show min q.length (((l.map rdH).foldl (L.rnd (L.sW q 4)) (0,0)).1+3 * 4)=q.length by omega]
 unfold L.exP
 rw [hE]
 show L.exG ⟨q,0,4⟩ ⟨0,[]⟩ (rdsH l)=_
 unfold L.exG
 rw [hfit,hA]
 show (L.sAt ⟨q,0,4⟩ q.length,L.rAt ⟨q,0,4⟩ q.length,(0:Int))=_
 unfold L.sAt L.rAt
 rw [List.take_length]
theorem mail_cut {b:List UInt8} (h1:1≤b.length) (h12:b.length≤12):L.checkCut 7 b.length 3=0∧(L.cutL 7 b 3).length≤4∧L.checkFrames (L.cutL 7 b 3)=0∧L.joinL (L.cutL 7 b 3)=(b,0)∧(∀ f∈L.cutL 7 b 3,f.b.length≤1048576):=by
 obtain ⟨P,hP,hP1,hP2,hP3,_⟩:=L.parts_fact b.length 3 (by decide)
 have hP3:(P - 1) * 3 < b.length:=hP3 (by omega)
 have hP4:P≤4:=by omega
 have hcc:L.checkCut 7 b.length 3=0:=by
  have hh:b.length=1∨b.length=2∨b.length=3∨b.length=4∨b.length=5∨b.length=6∨b.length=7∨b.length=8∨b.length=9∨b.length=10∨b.length=11∨b.length=12:=by omega
  rcases hh with e | e | e | e | e | e | e | e | e | e | e | e <;> rw [e] <;> rfl
 have hP:L.partsI b.length 3=(P:Int):=hP
 have hcl:L.cutL 7 b 3=(List.range P).map (L.cutFr 7 b 3):=by
  unfold L.cutL
  rw [hcc]
  show L.cutFrs 7 b 3=_
  unfold L.cutFrs
  rw [hP]; rfl
 have hlen:(L.cutL 7 b 3).length=P:=by rw [hcl,List.length_map,List.length_range]
 have hmem:∀ f∈L.cutL 7 b 3,∃ k,k < P∧f=L.cutFr 7 b 3 k:=fun f hf=>by
  rw [hcl] at hf
  obtain ⟨k,hk,rfl⟩:=List.mem_map.1 hf
  exact ⟨k,List.mem_range.1 hk,rfl⟩
 have hck:∀ f∈L.cutL 7 b 3,f.check=0:=fun f hf=>by
  obtain ⟨k,hk,rfl⟩:=hmem f hf
  exact L.cut_check ⟨by decide,by decide⟩ (by decide) hP (by omega) hk
 refine ⟨hcc,by omega,L.checks_ok (by omega) hck,L.join_whole (S:=3) (P:=P) ⟨by decide,by decide⟩ (by decide) hP hP1 (by omega) (by omega) hmem (fun q hq=>?_) (by omega),fun f hf=>?_⟩
 ·refine ⟨L.cutFr 7 b 3 q,?_,rfl⟩
  rw [hcl]; exact List.mem_map.2 ⟨q,List.mem_range.2 hq,rfl⟩
 ·obtain ⟨k,hk,rfl⟩:=hmem f hf
  have:=L.piece_le b 3 k
  show (L.piece b ((3:Nat):Int) k).length≤_
  omega
end Vc
set_option maxRecDepth 10000
set_option maxHeartbeats 4000000
namespace Vc
open Go Go.Proofs
def jr20:AFun:=⟨26,8,[.cell 2 2 true],
 (.seq
 (.reg [0,1] [⟨some 1,.cbx 0 2 (.tmp 0),none⟩,
  ⟨some 2,.alloc 1 [(.nils 1),(.nils 3)],none⟩])
 (.seq
  (.reg [2,3,4] [⟨some 6,.bsl 2 9 1 0 [] [],none⟩,
   ⟨some 7,.fad 0 (.tmp 1),none⟩,
   ⟨some 8,.ld false 1 (.tmp 7),none⟩,
   ⟨some 9,.app 3 9 1 16 (.tmp 6) (.tmp 8),none⟩,
   ⟨some 10,.build [(.nils 1),(.nils 3)] [(0,1,(.tmp 9))],none⟩,
   ⟨some 3,.alloc 4 [(.nils 1),(.nils 3)],none⟩,
   ⟨none,.st 2 (.tmp 3) (.tmp 10),none⟩])
  (.seq
  (.seq
   (.reg [] [⟨some 11,.fad 1 (.tmp 1),none⟩,
    ⟨some 12,.ld false 1 (.tmp 11),none⟩,
    ⟨some 13,.len (.tmp 12),none⟩,
    ⟨some 14,.mov (.cst (.d (.int .i64 0))),none⟩])
   (.post [2,3] [0,1,2,3,4,5,6,7]
   (.block 0
    (.keep [2,3,12,13,14] [0,1,2,3,4]
    (.loop
     (.post [2,3,12,13,14] [5,6,7]
     (.seq
      (.reg [] [⟨some 15,.cmp .lss (.tmp 14) (.tmp 13),none⟩])
      (.seq
      (.cond (.tmp 15)
       .skip
       (.exit 0))
      (.seq
       (.block 1
       (.seq
        (.reg [5] [⟨some 16,.ixa 3 (.tmp 12) (.tmp 14),none⟩,
         ⟨some 17,.ld true 3 (.tmp 16),none⟩,
         ⟨some 5,.alloc 5 [(.d (.int .i64 0)),(.d (.int .i64 0)),(.d (.int .i64 0))],none⟩,
         ⟨none,.st 3 (.tmp 5) (.tmp 17),none⟩])
        (.reg [6,7] [⟨some 18,.fad 1 (.tmp 3),none⟩,
         ⟨some 19,.ld false 1 (.tmp 18),none⟩,
         ⟨some 20,.ld true 3 (.tmp 5),none⟩,
         ⟨some 21,.bsl 6 79 3 1 [(.agg [(.int .i64 0),(.int .i64 0),(.int .i64 0)])] [(0,(.tmp 20))],none⟩,
         ⟨some 22,.app 7 79 3 24 (.tmp 19) (.tmp 21),none⟩,
         ⟨some 23,.fad 1 (.tmp 3),none⟩,
         ⟨none,.st 1 (.tmp 23) (.tmp 22),none⟩])))
       (.reg [] [⟨some 24,.arith .add .i64 (.tmp 14) (.cst (.d (.int .i64 1))),none⟩,
        ⟨some 14,.mov (.tmp 24),none⟩]))))))))))
  (.seq
   (.reg [] [⟨some 25,.ld true 2 (.tmp 3),none⟩,
    ⟨none,.st 2 (.tmp 2) (.tmp 25),none⟩])
   .ret))))⟩
def sPlan (m:Ms):Nat→St
 | 0=>⟨[(2,.ptr 1 0),(3,.ptr 4 0),(12,.d (.slice 3 (lks m.ls))),(13,.d (.int .i64 ((lks m.ls).length:Int))),(14,.d (.int .i64 (((0:Nat):Int))))],[.none,.box [.nils 1,.nils 3],.row 9 1 (strs m.ns) false,.none,.box [.sl 2 (strs m.ns).length,.nils 3],.none,.none,.none]⟩
 | k+1=>⟨[(2,.ptr 1 0),(3,.ptr 4 0),(12,.d (.slice 3 (lks m.ls))),(13,.d (.int .i64 ((lks m.ls).length:Int))),(14,.d (.int .i64 (((k+1:Nat):Int))))],[.none,.box [.nils 1,.nils 3],.row 9 1 (strs m.ns) false,.none,.box [.sl 2 (strs m.ns).length,.sl 7 (lks (m.ls.take (k+1))).length],.none,.none,.row 79 3 (lks (m.ls.take (k+1))) false]⟩
set_option maxHeartbeats 1000000 in
theorem k20 (m:Ms) (hn:m.ns.length≤1048576) (hl:m.ls.length≤1048576):CallDet Tryz.prog 20 [.d m.d] [m.d]:=by
 have hlen:=strs_len m.ns
 have hlen2:=lks_len m.ls
 refine call_of_vc (x:=jr20) (by kernel_rfl) rfl ?_
 repeat refine sd ?_
 refine And.intro ⟨rfl,rfl,rfl,?_,?_⟩ ?_
 ·show (0+(strs m.ns).length) * 16≤2 ^ 47
  omega
 ·show 0+(strs m.ns).length≤2 ^ 47
  omega
 repeat refine sd ?_
 refine loop_st (sPlan m) (fun k=>k≤m.ls.length) (fun k=>m.ls.length - k) 0 rfl (Nat.zero_le _) ?_
 intro k hk
 match k,hk with
 | 0,hk =>
  refine sd ?_
  refine b_lt (fun h=>?_) (fun h=>?_)
  ·have h:((0:Nat):Int) < ((lks m.ls).length:Int):=h
   refine Exists.elim (get_lt m.ls (k:=0) (by omega)) fun l hx=>?_
   have hb:=lks_len (m.ls.take (0))
   rw [List.length_take] at hb
   have e:lks (m.ls.take (0+1))=[l.d]:=by rw [take_one hx]; rfl
   refine ix_at (lks_at hx) (by omega) ?_
   repeat refine sd ?_
   refine And.intro ⟨?_,?_⟩ ?_
   ·show 1 * 24≤2 ^ 47
    omega
   ·show 1≤2 ^ 47
    omega
   repeat refine sd ?_
   refine ar_add (by omega) ?_
   refine ⟨0+1,⟨by show 0+1≤m.ls.length; omega,by show m.ls.length - (0+1) < m.ls.length - (0); omega⟩,?_⟩
   show _=(⟨[(2,.ptr 1 0),(3,.ptr 4 0),(12,.d (.slice 3 (lks m.ls))),(13,.d (.int .i64 ((lks m.ls).length:Int))),(14,.d (.int .i64 (((0+1:Nat):Int))))],[.none,.box [.nils 1,.nils 3],.row 9 1 (strs m.ns) false,.none,.box [.sl 2 (strs m.ns).length,.sl 7 (lks (m.ls.take (0+1))).length],.none,.none,.row 79 3 (lks (m.ls.take (0+1))) false]⟩:St)
   rw [e]; rfl
  ·have h:¬ ((0:Nat):Int) < ((lks m.ls).length:Int):=h
   have e:lks m.ls=[]:=by rw [List.eq_nil_of_length_eq_zero (show m.ls.length=0 by omega)]; rfl
   repeat refine sd ?_
   exact (congrArg (fun q=>resV [.agg [.slice 1 (strs m.ns),.slice 3 q]]) e).symm
 | k+1,hk =>
  refine sd ?_
  refine b_lt (fun h=>?_) (fun h=>?_)
  ·have h:((k+1:Nat):Int) < ((lks m.ls).length:Int):=h
   refine Exists.elim (get_lt m.ls (k:=k+1) (by omega)) fun l hx=>?_
   have hb:=lks_len (m.ls.take (k+1))
   rw [List.length_take] at hb
   have e:lks (m.ls.take (k+1+1))=lks (m.ls.take (k+1))++[l.d]:=by rw [take_one hx]; unfold lks; rw [List.map_append]; rfl
   refine ix_at (lks_at hx) (by omega) ?_
   repeat refine sd ?_
   refine And.intro ⟨rfl,rfl,rfl,?_,?_⟩ ?_
   ·show ((lks (m.ls.take (k+1))).length+1) * 24≤2 ^ 47
    omega
   ·show (lks (m.ls.take (k+1))).length+1≤2 ^ 47
    omega
   repeat refine sd ?_
   refine ar_add (by omega) ?_
   refine ⟨k+1+1,⟨by show k+1+1≤m.ls.length; omega,by show m.ls.length - (k+1+1) < m.ls.length - (k+1); omega⟩,?_⟩
   show _=(⟨[(2,.ptr 1 0),(3,.ptr 4 0),(12,.d (.slice 3 (lks m.ls))),(13,.d (.int .i64 ((lks m.ls).length:Int))),(14,.d (.int .i64 (((k+1+1:Nat):Int))))],[.none,.box [.nils 1,.nils 3],.row 9 1 (strs m.ns) false,.none,.box [.sl 2 (strs m.ns).length,.sl 7 (lks (m.ls.take (k+1+1))).length],.none,.none,.row 79 3 (lks (m.ls.take (k+1+1))) false]⟩:St)
   rw [e]; rfl
  ·have h:¬ ((k+1:Nat):Int) < ((lks m.ls).length:Int):=h
   have e:lks m.ls=lks (m.ls.take (k+1)):=by rw [List.take_of_length_le (by omega)]
   repeat refine sd ?_
   exact (congrArg (fun q=>resV [.agg [.slice 1 (strs m.ns),.slice 3 q]]) e).symm
@[irreducible] def seg18h:ACode:=(.post [7,17] [0,1,2,3,4,5,6,7,8,9,10]
 (.block 0
 (.keep [4,7,9,17,147,148] [0,1,2,3,4,5,6,7,8]
 (.loop
 (.post [4,7,9,17,147,148] [9,10]
 (.seq
 (.reg [] [⟨some 149,.cmp .lss (.tmp 148) (.tmp 147),none⟩])
 (.seq
 (.cond (.tmp 149)
 .skip
 (.exit 0))
 (.seq
 (.block 1
 (.seq
 (.reg [] [⟨some 150,.mov (.tmp 148),none⟩,
 ⟨some 19,.mov (.tmp 150),none⟩])
 (.seq
 (.seq
 (.regd [] [⟨some 151,.mov (.tmp 9),none⟩,
 ⟨some 152,.mov (.tmp 19),none⟩,
 ⟨some 153,.slc 1 (.tmp 151) none (some (.tmp 152)),none⟩,
 ⟨some 154,.mov (.tmp 9),none⟩,
 ⟨some 155,.mov (.tmp 19),none⟩,
 ⟨some 156,.ixa 1 (.tmp 154) (.tmp 155),none⟩,
 ⟨some 157,.ld false 1 (.tmp 156),none⟩,
 ⟨some 158,.call 14 [(.tmp 153),(.tmp 157)],none⟩,
 ⟨some 159,.mov (.tmp 158),none⟩,
 ⟨some 160,.ld true 2 (.tmp 4),some (159,false)⟩,
 ⟨some 161,.mov (.tmp 9),some (159,false)⟩,
 ⟨some 162,.mov (.tmp 19),some (159,false)⟩,
 ⟨some 163,.ixa 1 (.tmp 161) (.tmp 162),some (159,false)⟩,
 ⟨some 164,.ld false 1 (.tmp 163),some (159,false)⟩,
 ⟨some 165,.mov (.tmp 9),some (159,false)⟩,
 ⟨some 166,.mov (.tmp 19),some (159,false)⟩,
 ⟨some 167,.arith .add .i64 (.tmp 166) (.cst (.d (.int .i64 1))),some (159,false)⟩,
 ⟨some 168,.ixa 1 (.tmp 165) (.tmp 167),some (159,false)⟩,
 ⟨some 169,.ld false 1 (.tmp 168),some (159,false)⟩,
 ⟨some 170,.call 44 [(.tmp 160),(.tmp 164),(.tmp 169)],some (159,false)⟩,
 ⟨some 171,.cmp .eql (.tmp 170) (.cst (.d (.int .i64 0))),some (159,false)⟩,
 ⟨some 172,.pick (.tmp 159) (.cst (.d (.bool true))) (.tmp 171),none⟩] [(0,1),(0,3),(1,3),(2,3),(0,4),(1,4),(2,4),(3,4),(0,5),(1,5),(2,5),(0,6),(1,6),(2,6),(9,10),(9,11),(10,11),(9,12),(9,13),(9,14),(10,14),(11,14),(12,14),(13,14),(9,15),(10,15),(11,15),(12,15),(13,15),(14,15),(9,16),(10,16),(11,16),(12,16),(13,16),(14,16),(9,17),(10,17),(11,17),(12,17),(13,17),(9,18),(10,18),(11,18),(12,18),(13,18)])
 (.cond (.tmp 172)
 (.seq
 (.reg [] [⟨some 8,.mov (.cst (.d (.bool false))),none⟩])
 .ret)
 .skip))
 (.seq
 (.reg [9,10] [⟨some 174,.mov (.tmp 17),none⟩,
 ⟨some 175,.build [(.nils 4),(.d (.int .i64 0)),(.d (.int .i64 0))] [(0,1,(.tmp 174)),(2,1,(.cst (.d (.int .i64 4))))],none⟩,
 ⟨some 176,.build [(.d (.int .i64 0)),(.nils 4)] [],none⟩,
 ⟨some 177,.fad 1 (.tmp 7),none⟩,
 ⟨some 178,.ld false 1 (.tmp 177),none⟩,
 ⟨some 179,.call 27 [(.tmp 178)],none⟩,
 ⟨some 180,.call 26 [(.tmp 175),(.tmp 176),(.tmp 179)],none⟩,
 ⟨some 173,.mov (.tmp 180),none⟩,
 ⟨some 181,.ext 0 (.tmp 173),none⟩,
 ⟨some 182,.ext 1 (.tmp 173),none⟩,
 ⟨some 183,.ext 2 (.tmp 173),none⟩,
 ⟨some 20,.alloc 9 [(.nils 4),(.d (.int .i64 0)),(.d (.int .i64 0))],none⟩,
 ⟨some 21,.alloc 10 [(.d (.int .i64 0)),(.nils 4)],none⟩,
 ⟨none,.st 3 (.tmp 20) (.tmp 181),none⟩,
 ⟨none,.st 2 (.tmp 21) (.tmp 182),none⟩,
 ⟨some 22,.mov (.tmp 183),none⟩])
 (.seq
 (.seq
 (.reg [] [⟨some 184,.mov (.tmp 22),none⟩,
 ⟨some 185,.cmp .neq (.tmp 184) (.cst (.d (.int .i64 0))),none⟩,
 ⟨some 186,.mov (.tmp 185),none⟩,
 ⟨some 187,.fad 0 (.tmp 21),some (186,false)⟩,
 ⟨some 188,.ld false 1 (.tmp 187),some (186,false)⟩,
 ⟨some 189,.mov (.tmp 17),some (186,false)⟩,
 ⟨some 190,.len (.tmp 189),some (186,false)⟩,
 ⟨some 191,.cmp .neq (.tmp 188) (.tmp 190),some (186,false)⟩,
 ⟨some 192,.pick (.tmp 186) (.cst (.d (.bool true))) (.tmp 191),none⟩,
 ⟨some 193,.mov (.tmp 192),none⟩,
 ⟨some 194,.fad 1 (.tmp 21),some (193,false)⟩,
 ⟨some 195,.ld false 1 (.tmp 194),some (193,false)⟩,
 ⟨some 196,.len (.tmp 195),some (193,false)⟩,
 ⟨some 197,.mov (.tmp 17),some (193,false)⟩,
 ⟨some 198,.len (.tmp 197),some (193,false)⟩,
 ⟨some 199,.cmp .neq (.tmp 196) (.tmp 198),some (193,false)⟩,
 ⟨some 200,.pick (.tmp 193) (.cst (.d (.bool true))) (.tmp 199),none⟩,
 ⟨some 201,.mov (.tmp 200),none⟩,
 ⟨some 202,.fad 1 (.tmp 20),some (201,false)⟩,
 ⟨some 203,.ld false 1 (.tmp 202),some (201,false)⟩,
 ⟨some 204,.mov (.tmp 17),some (201,false)⟩,
 ⟨some 205,.len (.tmp 204),some (201,false)⟩,
 ⟨some 206,.cmp .neq (.tmp 203) (.tmp 205),some (201,false)⟩,
 ⟨some 207,.pick (.tmp 201) (.cst (.d (.bool true))) (.tmp 206),none⟩])
 (.cond (.tmp 207)
 (.seq
 (.reg [] [⟨some 8,.mov (.cst (.d (.bool false))),none⟩])
 .ret)
 .skip))
 (.reg [] [⟨some 208,.fad 1 (.tmp 21),none⟩,
 ⟨some 209,.ld false 1 (.tmp 208),none⟩,
 ⟨some 17,.mov (.tmp 209),none⟩]))))))
 (.reg [] [⟨some 210,.arith .add .i64 (.tmp 148) (.cst (.d (.int .i64 1))),none⟩,
 ⟨some 148,.mov (.tmp 210),none⟩])))))))))
theorem v18h {n : Nat} {m : Ms} {b : List UInt8} {l : List (Int × Int × Bool)} {W : List Int} {q : List L.Fr} {Q : AExit → St → Prop} (hf : m.fine) (hW1 : 1 ≤ W.length) (hW : W.length ≤ 32) (hl : l.length ≤ 4) (hq : L.checkFrames q = 0) (hq4 : q.length ≤ 4) (hqb : ∀ f ∈ q, f.b.length ≤ 1048576)
  (hnd:W.Nodup) (hbt:∀ (i:Nat) a b,W[i]?=some a→W[i+1]?=some b→0 < betw m.ls a b)
  (h:Q .normal ⟨[(7,.ptr 2 0),(17,.d (.slice 4 (L.frs q)))],[.none,.none,.cbox [.slice 1 (b.map L.byt),.slice 3 (hops l)],.none,.none,.none,.none,.none,.none,.none,.none]⟩) :
  vc Tryz.prog n seg18h ⟨[(4,.ptr 0 0),(7,.ptr 2 0),(9,.d (.slice 1 (ints W))),(17,.d (.slice 4 (L.frs q))),(147,.d (.int .i64 (((ints W).length:Int) - 1))),(148,.d (.int .i64 0))],[.cbox [.slice 1 (strs m.ns),.slice 3 (lks m.ls)],.none,.cbox [.slice 1 (b.map L.byt),.slice 3 (hops l)],.none,.none,.none,.none,.none,.none,.none,.none]⟩ Q:=by
 unfold seg18h
 have hil:=ints_len W
 have hfl:=L.frs_len q
 have h128:=hf.l128
 have hhl:=hops_len l
 have c27_:=k27 l (by omega)
 have hrl:(rdsH l).length=l.length+3:=by unfold rdsH; rw [List.length_append,List.length_map]; rfl
 have c26_:CallDet Tryz.prog 26 [.d (.agg [.slice 4 (L.frs q),.int .i64 0,.int .i64 4]),.d (.agg [.int .i64 0,.slice 4 []]),.d (.slice 3 (L.rds (rdsH l)))] [.agg [.slice 4 (L.frs q),.int .i64 q.length,.int .i64 4],.agg [.int .i64 q.length,.slice 4 (L.frs q)],.int .i64 0]:=by
  have h2:=L.c49 ⟨q,0,4⟩ ⟨0,[]⟩ (rdsH l) (by show q.length≤_; omega) (by decide) (by omega) hqb (fun f hf=>by cases hf) (fun x hx=>by
   unfold rdsH at hx
   rcases List.mem_append.1 hx with hx | hx
   ·obtain ⟨z,_,rfl⟩:=List.mem_map.1 hx
    have h1:=bitsN_len z.1 4
    have h2:=bitsN_len z.2.1 4
    exact ⟨by show (bitsN z.1 4).length≤_; omega,by show (bitsN z.2.1 4).length≤_; omega⟩
   ·simp only [List.mem_cons,List.not_mem_nil,or_false] at hx
    rcases hx with rfl | rfl | rfl <;> exact ⟨by decide,by decide⟩)
  rw [hop_all hq hq4 hl] at h2; exact h2
 rotate_left
 refine loop_u (fun k:Nat=>[(148,.d (.int .i64 k))]) (fun _=>[]) (fun k=>k+1≤W.length) (fun k=>W.length - k) 0 rfl (by omega) ?_
 intro k hk
 have hk:k+1≤W.length:=hk
 dsimp only
 by_cases hkl:k+1 < W.length
 ·refine Exists.elim (get_lt W (k:=k) (by omega)) fun x hx=>?_
  refine Exists.elim (get_lt W (k:=k+1) hkl) fun z hz=>?_
  have hxi:=ints_get hx
  have hzi:(ints W)[(((k:Int))+1).toNat]?=some (.int .i64 z):=ints_get hz
  have hb:=hbt k x z hx hz
  have et:((ints W).take ((k:Int)).toNat).drop ((0:Int)).toNat=ints (W.take k):=by
   show ((ints W).take k).drop 0=_
   unfold ints; rw [List.drop_zero,List.map_take]
  have hnx:(W.take k).contains x=false:=by
   rw [Bool.eq_false_iff]
   intro hm
   rw [List.contains_iff_mem] at hm
   obtain ⟨j,hj⟩:=List.getElem?_of_mem hm
   have hjk:j < k:=by
    have:=(List.getElem?_eq_some_iff.1 hj).1
    rw [List.length_take] at this; omega
   rw [List.getElem?_take_of_lt hjk] at hj
   obtain ⟨p1,p2⟩:=List.getElem?_eq_some_iff.1 hj
   obtain ⟨p3,p4⟩:=List.getElem?_eq_some_iff.1 hx
   exact absurd (p2.trans p4.symm) (List.pairwise_iff_getElem.1 hnd j k p1 p3 hjk)
  have c14_:CallDet Tryz.prog 14 [.d (.slice 1 (((ints W).take ((k:Int)).toNat).drop ((0:Int)).toNat)),.d (.int .i64 x)] [.bool false]:=by
   rw [et]
   have h2:=c50 (W.take k) x (by rw [List.length_take]; omega)
   rw [hnx] at h2; exact h2
  have c44_:=c67 m x z (by omega) hf.asc
  refine sd ?_
  refine b_lt (fun t1=>?_) (fun t1=>?_)
  refine an ?_ ?_
  refine an ?_ ?_
  exact rfl
  refine an ?_ ?_
  (show (0:Int)≤(0:Int); omega)
  refine an ?_ ?_
  (show (0:Int)≤(↑k:Int); omega)
  (show (↑k:Int)≤(↑(List.length (ints W)):Int); omega)
  refine ix_at hxi ?_ ?_
  (show (0:Int)≤(↑k:Int); omega)
  refine ca c14_ ?_
  refine ix_at hxi ?_ ?_
  (show (0:Int)≤(↑k:Int); omega)
  refine ar_add ?_ ?_
  refine an ?_ ?_
  (show (-9223372036854775808:Int)≤(↑k:Int)+(1:Int); omega)
  (show (↑k:Int)+(1:Int)≤(9223372036854775807:Int); omega)
  refine ix_at hzi ?_ ?_
  (show (0:Int)≤(↑k:Int)+(1:Int); omega)
  refine ca c44_ ?_
  refine sd ?_
  refine b_eq (fun t2=>?_) (fun t2=>?_)
  (exfalso; omega)
  refine ca c27_ ?_
  refine ca c26_ ?_
  refine sd ?_
  refine sd ?_
  refine b_ne (fun t3=>?_) (fun t3=>?_)
  (exfalso; omega)
  refine sd ?_
  refine b_ne (fun t4=>?_) (fun t4=>?_)
  (exfalso; omega)
  refine sd ?_
  refine b_ne (fun t5=>?_) (fun t5=>?_)
  (exfalso; omega)
  refine ar_add ?_ ?_
  refine an ?_ ?_
  (show (-9223372036854775808:Int)≤(↑k:Int)+(1:Int); omega)
  (show (↑k:Int)+(1:Int)≤(9223372036854775807:Int); omega)
  rotate_left
  (exfalso; omega)
  all_goals exact ⟨k+1,⟨by show k+1+1≤W.length; omega,by show W.length - (k+1) < W.length - k; omega⟩,rfl⟩
 ·refine sd ?_
  refine b_lt (fun t1=>?_) (fun t1=>?_)
  (exfalso; omega)
  rotate_left
  all_goals exact h
def jr18:AFun:=⟨224,11,[.tmp 8],
 (.seq
 (.reg [0,1,2] [⟨some 4,.cbx 0 2 (.tmp 0),none⟩,
  ⟨some 5,.cbx 1 3 (.tmp 1),none⟩,
  ⟨some 7,.cbx 2 2 (.tmp 3),none⟩,
  ⟨some 8,.mov (.cst (.d (.bool false))),none⟩])
 (.seq
  (.regd [] [⟨some 26,.ld true 2 (.tmp 4),none⟩,
   ⟨some 27,.call 8 [(.tmp 26)],none⟩,
   ⟨some 28,.ld true 3 (.tmp 5),none⟩,
   ⟨some 29,.call 16 [(.tmp 28)],none⟩,
   ⟨some 30,.mov (.tmp 2),none⟩,
   ⟨some 31,.call 24 [(.tmp 27),(.tmp 29),(.tmp 30)],none⟩,
   ⟨some 25,.mov (.tmp 31),none⟩,
   ⟨some 32,.ext 0 (.tmp 25),none⟩,
   ⟨some 33,.ext 1 (.tmp 25),none⟩,
   ⟨some 9,.mov (.tmp 32),none⟩,
   ⟨some 10,.mov (.tmp 33),none⟩] [(0,2),(1,2),(0,4),(1,4),(2,4),(3,4),(7,8),(8,9)])
  (.seq
  (.reg [] [⟨some 35,.ld true 2 (.tmp 4),none⟩,
   ⟨some 36,.call 8 [(.tmp 35)],none⟩,
   ⟨some 37,.call 54 [(.tmp 36),(.cst (.d (.int .i64 0)))],none⟩,
   ⟨some 34,.mov (.tmp 37),none⟩,
   ⟨some 38,.ext 0 (.tmp 34),none⟩,
   ⟨some 39,.ext 1 (.tmp 34),none⟩,
   ⟨some 11,.mov (.tmp 38),none⟩,
   ⟨some 12,.mov (.tmp 39),none⟩])
  (.seq
   (.seq
   (.reg [] [⟨some 40,.mov (.tmp 12),none⟩,
    ⟨some 41,.cmp .neq (.tmp 40) (.cst (.d (.int .i64 0))),none⟩,
    ⟨some 42,.mov (.tmp 41),none⟩,
    ⟨some 43,.mov (.tmp 11),some (42,false)⟩,
    ⟨some 44,.len (.tmp 43),some (42,false)⟩,
    ⟨some 45,.fad 0 (.tmp 4),some (42,false)⟩,
    ⟨some 46,.ld false 1 (.tmp 45),some (42,false)⟩,
    ⟨some 47,.len (.tmp 46),some (42,false)⟩,
    ⟨some 48,.cmp .neq (.tmp 44) (.tmp 47),some (42,false)⟩,
    ⟨some 49,.pick (.tmp 42) (.cst (.d (.bool true))) (.tmp 48),none⟩])
   (.cond (.tmp 49)
    (.seq
    (.reg [] [⟨some 8,.mov (.cst (.d (.bool false))),none⟩])
    .ret)
    .skip))
   (.seq
   (.seq
    (.reg [] [⟨some 50,.mov (.tmp 10),none⟩,
     ⟨some 51,.cmp .neq (.tmp 50) (.cst (.d (.int .i64 0))),none⟩])
    (.cond (.tmp 51)
    (.seq
     (.reg [] [⟨some 53,.ld true 2 (.tmp 4),none⟩,
      ⟨some 54,.call 8 [(.tmp 53)],none⟩,
      ⟨some 55,.mov (.tmp 2),none⟩,
      ⟨some 56,.call 55 [(.tmp 54),(.tmp 55),(.cst (.d (.int .i64 0)))],none⟩,
      ⟨some 52,.mov (.tmp 56),none⟩,
      ⟨some 57,.ext 0 (.tmp 52),none⟩,
      ⟨some 58,.ext 1 (.tmp 52),none⟩,
      ⟨some 13,.mov (.tmp 57),none⟩,
      ⟨some 14,.mov (.tmp 58),none⟩])
     (.seq
     (.reg [3,4] [⟨some 59,.mov (.tmp 10),none⟩,
      ⟨some 60,.cmp .eql (.tmp 59) (.cst (.d (.int .i64 7))),none⟩,
      ⟨some 61,.mov (.tmp 60),none⟩,
      ⟨some 62,.mov (.tmp 11),some (61,true)⟩,
      ⟨some 63,.mov (.tmp 2),some (61,true)⟩,
      ⟨some 64,.ixa 1 (.tmp 62) (.tmp 63),some (61,true)⟩,
      ⟨some 65,.ld false 1 (.tmp 64),some (61,true)⟩,
      ⟨some 66,.cmp .eql (.tmp 65) (.cst (.d (.int .i64 (-1)))),some (61,true)⟩,
      ⟨some 67,.pick (.tmp 61) (.tmp 66) (.cst (.d (.bool false))),none⟩,
      ⟨some 68,.mov (.tmp 67),none⟩,
      ⟨some 69,.mov (.tmp 14),some (68,true)⟩,
      ⟨some 70,.cmp .eql (.tmp 69) (.cst (.d (.int .i64 0))),some (68,true)⟩,
      ⟨some 71,.pick (.tmp 68) (.tmp 70) (.cst (.d (.bool false))),none⟩,
      ⟨some 72,.mov (.tmp 71),none⟩,
      ⟨some 73,.ld true 2 (.tmp 4),some (72,true)⟩,
      ⟨some 74,.call 8 [(.tmp 73)],some (72,true)⟩,
      ⟨some 75,.mov (.tmp 2),some (72,true)⟩,
      ⟨some 76,.bsl 3 3 1 0 [] [],some (72,true)⟩,
      ⟨some 77,.mov (.tmp 13),some (72,true)⟩,
      ⟨some 78,.app 4 3 1 8 (.tmp 76) (.tmp 77),some (72,true)⟩,
      ⟨some 79,.call 56 [(.tmp 74),(.tmp 75),(.cst (.d (.int .i64 0))),(.tmp 78)],some (72,true)⟩,
      ⟨some 80,.cmp .eql (.tmp 79) (.cst (.d (.int .i64 0))),some (72,true)⟩,
      ⟨some 81,.pick (.tmp 72) (.tmp 80) (.cst (.d (.bool false))),none⟩,
      ⟨some 8,.mov (.tmp 81),none⟩])
     .ret))
    .skip))
   (.seq
    (.reg [5,6] [⟨some 83,.ld true 2 (.tmp 4),none⟩,
     ⟨some 84,.call 8 [(.tmp 83)],none⟩,
     ⟨some 85,.bsl 5 3 1 0 [] [],none⟩,
     ⟨some 86,.mov (.tmp 9),none⟩,
     ⟨some 87,.app 6 3 1 8 (.tmp 85) (.tmp 86),none⟩,
     ⟨some 88,.call 57 [(.tmp 84),(.tmp 87)],none⟩,
     ⟨some 82,.mov (.tmp 88),none⟩,
     ⟨some 89,.ext 0 (.tmp 82),none⟩,
     ⟨some 90,.ext 1 (.tmp 82),none⟩,
     ⟨some 15,.mov (.tmp 89),none⟩,
     ⟨some 16,.mov (.tmp 90),none⟩])
    (.seq
    (.seq
     (.reg [] [⟨some 91,.mov (.tmp 16),none⟩,
      ⟨some 92,.cmp .neq (.tmp 91) (.cst (.d (.int .i64 0))),none⟩,
      ⟨some 93,.mov (.tmp 92),none⟩,
      ⟨some 94,.mov (.tmp 15),some (93,false)⟩,
      ⟨some 95,.mov (.tmp 11),some (93,false)⟩,
      ⟨some 96,.mov (.tmp 2),some (93,false)⟩,
      ⟨some 97,.ixa 1 (.tmp 95) (.tmp 96),some (93,false)⟩,
      ⟨some 98,.ld false 1 (.tmp 97),some (93,false)⟩,
      ⟨some 99,.cmp .neq (.tmp 94) (.tmp 98),some (93,false)⟩,
      ⟨some 100,.pick (.tmp 93) (.cst (.d (.bool true))) (.tmp 99),none⟩,
      ⟨some 101,.mov (.tmp 100),none⟩,
      ⟨some 102,.mov (.tmp 9),some (101,false)⟩,
      ⟨some 103,.len (.tmp 102),some (101,false)⟩,
      ⟨some 104,.cmp .lss (.tmp 103) (.cst (.d (.int .i64 1))),some (101,false)⟩,
      ⟨some 105,.pick (.tmp 101) (.cst (.d (.bool true))) (.tmp 104),none⟩,
      ⟨some 106,.mov (.tmp 105),none⟩,
      ⟨some 107,.mov (.tmp 9),some (106,false)⟩,
      ⟨some 108,.len (.tmp 107),some (106,false)⟩,
      ⟨some 109,.fad 0 (.tmp 4),some (106,false)⟩,
      ⟨some 110,.ld false 1 (.tmp 109),some (106,false)⟩,
      ⟨some 111,.len (.tmp 110),some (106,false)⟩,
      ⟨some 112,.cmp .gtr (.tmp 108) (.tmp 111),some (106,false)⟩,
      ⟨some 113,.pick (.tmp 106) (.cst (.d (.bool true))) (.tmp 112),none⟩,
      ⟨some 114,.mov (.tmp 113),none⟩,
      ⟨some 115,.mov (.tmp 9),some (114,false)⟩,
      ⟨some 116,.ixa 1 (.tmp 115) (.cst (.d (.int .i64 0))),some (114,false)⟩,
      ⟨some 117,.ld false 1 (.tmp 116),some (114,false)⟩,
      ⟨some 118,.mov (.tmp 2),some (114,false)⟩,
      ⟨some 119,.cmp .neq (.tmp 117) (.tmp 118),some (114,false)⟩,
      ⟨some 120,.pick (.tmp 114) (.cst (.d (.bool true))) (.tmp 119),none⟩,
      ⟨some 121,.mov (.tmp 120),none⟩,
      ⟨some 122,.mov (.tmp 9),some (121,false)⟩,
      ⟨some 123,.mov (.tmp 9),some (121,false)⟩,
      ⟨some 124,.len (.tmp 123),some (121,false)⟩,
      ⟨some 125,.arith .sub .i64 (.tmp 124) (.cst (.d (.int .i64 1))),some (121,false)⟩,
      ⟨some 126,.ixa 1 (.tmp 122) (.tmp 125),some (121,false)⟩,
      ⟨some 127,.ld false 1 (.tmp 126),some (121,false)⟩,
      ⟨some 128,.cmp .neq (.tmp 127) (.cst (.d (.int .i64 0))),some (121,false)⟩,
      ⟨some 129,.pick (.tmp 121) (.cst (.d (.bool true))) (.tmp 128),none⟩])
     (.cond (.tmp 129)
     (.seq
      (.reg [] [⟨some 8,.mov (.cst (.d (.bool false))),none⟩])
      .ret)
     .skip))
    (.seq
     (.reg [7,8] [⟨some 131,.bsl 7 5 1 0 [] [],none⟩,
      ⟨some 132,.fad 0 (.tmp 7),none⟩,
      ⟨some 133,.ld false 1 (.tmp 132),none⟩,
      ⟨some 134,.app 8 5 1 1 (.tmp 131) (.tmp 133),none⟩,
      ⟨some 135,.call 25 [(.cst (.d (.int .i64 7))),(.tmp 134),(.cst (.d (.int .i64 3)))],none⟩,
      ⟨some 130,.mov (.tmp 135),none⟩,
      ⟨some 136,.ext 0 (.tmp 130),none⟩,
      ⟨some 137,.ext 1 (.tmp 130),none⟩,
      ⟨some 17,.mov (.tmp 136),none⟩,
      ⟨some 18,.mov (.tmp 137),none⟩])
     (.seq
     (.seq
      (.reg [] [⟨some 138,.mov (.tmp 18),none⟩,
       ⟨some 139,.cmp .neq (.tmp 138) (.cst (.d (.int .i64 0))),none⟩,
       ⟨some 140,.mov (.tmp 139),none⟩,
       ⟨some 141,.mov (.tmp 17),some (140,false)⟩,
       ⟨some 142,.len (.tmp 141),some (140,false)⟩,
       ⟨some 143,.cmp .gtr (.tmp 142) (.cst (.d (.int .i64 4))),some (140,false)⟩,
       ⟨some 144,.pick (.tmp 140) (.cst (.d (.bool true))) (.tmp 143),none⟩])
      (.cond (.tmp 144)
      (.seq
       (.reg [] [⟨some 8,.mov (.cst (.d (.bool false))),none⟩])
       .ret)
      .skip))
     (.seq
      (.seq
      (.reg [] [⟨some 145,.mov (.tmp 9),none⟩,
       ⟨some 146,.len (.tmp 145),none⟩,
       ⟨some 147,.arith .sub .i64 (.tmp 146) (.cst (.d (.int .i64 1))),none⟩,
       ⟨some 148,.mov (.cst (.d (.int .i64 0))),none⟩])
      (.keep [4,7,9,17,147,148] [0,1,2,3,4,5,6,7,8] seg18h))
      (.seq
      (.reg [] [⟨some 212,.mov (.tmp 17),none⟩,
       ⟨some 213,.call 28 [(.tmp 212)],none⟩,
       ⟨some 211,.mov (.tmp 213),none⟩,
       ⟨some 214,.ext 0 (.tmp 211),none⟩,
       ⟨some 215,.ext 1 (.tmp 211),none⟩,
       ⟨some 23,.mov (.tmp 214),none⟩,
       ⟨some 24,.mov (.tmp 215),none⟩])
      (.seq
       (.reg [] [⟨some 216,.mov (.tmp 24),none⟩,
        ⟨some 217,.cmp .eql (.tmp 216) (.cst (.d (.int .i64 0))),none⟩,
        ⟨some 218,.mov (.tmp 217),none⟩,
        ⟨some 219,.mov (.tmp 23),some (218,true)⟩,
        ⟨some 220,.fad 0 (.tmp 7),some (218,true)⟩,
        ⟨some 221,.ld false 1 (.tmp 220),some (218,true)⟩,
        ⟨some 222,.call 30 [(.tmp 219),(.tmp 221)],some (218,true)⟩,
        ⟨some 223,.pick (.tmp 218) (.tmp 222) (.cst (.d (.bool false))),none⟩,
        ⟨some 8,.mov (.tmp 223),none⟩])
       .ret))))))))))))⟩
theorem k18 {m : Ms} {y : Sts} {N : Int} (hy : Calm m y N) (hco : y.co = 0) (v : Int) (h0 : 0 ≤ v) (h1 : v < (m.ns.length : Int)) (b : List UInt8) (hb1 : 1 ≤ b.length) (hb12 : b.length ≤ 12) (l : List (Int × Int × Bool)) (hl : l.length ≤ 4) :
  CallDet Tryz.prog 18 [.d m.d,.d y.d,.d (.int .i64 v),.d (.agg [.slice 1 (b.map L.byt),.slice 3 (hops l)])] [.bool true]:=by
 have g:=hy.g
 have hf:=chk_fine g.chk
 have h32:=hf.n32
 have h128:=hf.l128
 have hle:=g.len
 have hsl:=strs_len m.ns
 have hbl:(b.map L.byt).length=b.length:=List.length_map _
 have c8_:=c18 m (by omega) (by omega)
 have c16_:=c33 y (by omega)
 have hz:m.nodeE 0=0:=by
  unfold Ms.nodeE outN
  rw [decide_eq_false (by omega),decide_eq_false (by omega)]; rfl
 have hvE:m.nodeE v=0:=by
  unfold Ms.nodeE outN
  rw [decide_eq_false (by omega),decide_eq_false (by omega)]; rfl
 have c54_:CallDet Tryz.prog 54 [.d m.d,.d (.int .i64 0)] [.slice 1 (ints (m.dist 0)),.int .i64 0]:=by
  have h2:=c21 m 0 (by omega) (by omega)
  have e:nodeD m 0=0:=nodeD_good2 g.chk hz
  unfold Ms.distP at h2
  rw [e] at h2; exact h2
 have hdl:=dist_len m 0
 have hdi:=ints_len (m.dist 0)
 have hv:(ints (m.dist 0))[v.toNat]?=some (.int .i64 (at0 (m.dist 0) v.toNat)):=ints_at0 (by omega)
 have ev:((v.toNat:Nat):Int)=v:=by omega
 have hR:y.isR v=decide (0≤at0 (m.dist 0) v.toNat):=by
  have h2:=hy.isR (v:=v.toNat) (by omega)
  rw [hco,ev] at h2; exact h2
 have e0:firstOf [m.chkS y,m.nodeE v]=0:=by rw [of_good g,hvE]; rfl
 have h63:=c63 m y v (by omega) (by omega) (by omega)
 refine call_of_vc (x:=jr18) (by kernel_rfl) rfl ?_
 by_cases hd:0≤at0 (m.dist 0) v.toNat
 ·obtain ⟨t,w1,w2,w3,w4,w5,w6,w7⟩:=hy.route (v:=v.toNat) (by rw [hco]; exact hd)
  rw [ev] at w1 w2 w3 w4 w5 w6 w7
  rw [hco] at w2 w3
  have c24_:CallDet Tryz.prog 24 [.d m.d,.d y.d,.d (.int .i64 v)] [.slice 1 (ints (v::t)),.int .i64 0]:=by
   have e:routE m y v=0:=by unfold routE rtE; rw [e0,hR,decide_eq_true hd]; rfl
   rw [e,w1] at h63; exact h63
  have hw0:(ints (v::t))[((0:Int)).toNat]?=some (.int .i64 v):=rfl
  have hw1:(ints (v::t))[(((ints (v::t)).length:Int) - 1).toNat]?=some (.int .i64 0):=by
   have hl2:=ints_len (v::t)
   have e:(((ints (v::t)).length:Int) - 1).toNat=t.length:=by rw [hl2,List.length_cons]; omega
   rw [e]
   rw [List.getLast?_eq_getElem?] at w2
   unfold ints
   rw [List.getElem?_map]
   have w2:(v::t)[t.length]?=some 0:=w2
   rw [w2]; rfl
  have hW1:1≤(v::t).length:=Nat.succ_le_succ (Nat.zero_le _)
  generalize v::t=W at *
  have hil:=ints_len W
  have c57_:CallDet Tryz.prog 57 [.d m.d,.d (.slice 1 (ints W))] [.int .i64 (at0 (m.dist 0) v.toNat),.int .i64 0]:=by
   have h2:=c19 m W (by omega) (by omega) (by omega)
   rw [w3] at h2; exact h2
  obtain ⟨m1,m2,m3,m4,m5⟩:=mail_cut hb1 hb12
  have c25_:CallDet Tryz.prog 25 [.d (.int .i64 7),.d (.slice 1 (b.map L.byt)),.d (.int .i64 3)] [.slice 4 (L.frs (L.cutL 7 b 3)),.int .i64 0]:=by
   have h2:=L.c13 7 3 b
   rw [m1] at h2; exact h2
  have hfl:=L.frs_len (L.cutL 7 b 3)
  have c28_:CallDet Tryz.prog 28 [.d (.slice 4 (L.frs (L.cutL 7 b 3)))] [.slice 1 (b.map L.byt),.int .i64 0]:=by
   have h2:=L.c14 (L.cutL 7 b 3) (by omega)
   rw [m4] at h2; exact h2
  have c30_:CallDet Tryz.prog 30 [.d (.slice 1 (b.map L.byt)),.d (.slice 1 (b.map L.byt))] [.bool true]:=by
   have h2:=L.c24 b b
   rw [beq_self_eq_true] at h2; exact h2
  refine ca c8_ ?_
  refine ca c16_ ?_
  refine ca c24_ ?_
  refine ca c8_ ?_
  refine ca c54_ ?_
  refine sd ?_
  refine sd ?_
  refine b_ne (fun t1=>?_) (fun t1=>?_)
  (exfalso; omega)
  refine sd ?_
  refine ca c8_ ?_
  refine sd ?_
  refine sd ?_
  refine an ?_ ?_
  refine an ?_ ?_
  exact rfl
  refine an ?_ ?_
  exact rfl
  refine an ?_ ?_
  exact rfl
  refine an ?_ ?_
  (show ((0:Nat)+List.length (ints W)) * (8:Nat)≤(2:Nat) ^ (47:Nat); omega)
  (show (0:Nat)+List.length (ints W)≤(2:Nat) ^ (47:Nat); omega)
  refine sd ?_
  refine ca c57_ ?_
  refine sd ?_
  refine ix_at hv ?_ ?_
  assumption
  refine sd ?_
  refine b_ne (fun t2=>?_) (fun t2=>?_)
  (exfalso; omega)
  refine sd ?_
  refine b_lt (fun t3=>?_) (fun t3=>?_)
  (exfalso; omega)
  refine sd ?_
  refine b_lt (fun t4=>?_) (fun t4=>?_)
  (exfalso; omega)
  refine ix_at hw0 ?_ ?_
  (show (0:Int)≤(0:Int); omega)
  refine sd ?_
  refine b_ne (fun t5=>?_) (fun t5=>?_)
  (exfalso; omega)
  refine ar_sub ?_ ?_
  refine an ?_ ?_
  (show (-9223372036854775808:Int)≤(↑(List.length (ints W)):Int) - (1:Int); omega)
  (show (↑(List.length (ints W)):Int) - (1:Int)≤(9223372036854775807:Int); omega)
  refine ix_at hw1 ?_ ?_
  (show (0:Int)≤(↑(List.length (ints W)):Int) - (1:Int); omega)
  refine sd ?_
  refine sd ?_
  refine sd ?_
  refine an ?_ ?_
  refine an ?_ ?_
  exact rfl
  refine an ?_ ?_
  exact rfl
  refine an ?_ ?_
  exact rfl
  refine an ?_ ?_
  (show ((0:Nat)+List.length (List.map L.byt b)) * (1:Nat)≤(2:Nat) ^ (47:Nat); omega)
  (show (0:Nat)+List.length (List.map L.byt b)≤(2:Nat) ^ (47:Nat); omega)
  refine sd ?_
  refine ca c25_ ?_
  refine sd ?_
  refine sd ?_
  refine b_lt (fun t6=>?_) (fun t6=>?_)
  (exfalso; omega)
  refine ar_sub ?_ ?_
  refine an ?_ ?_
  (show (-9223372036854775808:Int)≤(↑(List.length (ints W)):Int) - (1:Int); omega)
  (show (↑(List.length (ints W)):Int) - (1:Int)≤(9223372036854775807:Int); omega)
  rotate_left
  refine v18h hf hW1 (by omega) hl m3 m2 m5 w6 w7 ?_
  refine ca c28_ ?_
  refine sd ?_
  refine ca c30_ ?_
  exact rfl
 ·have c24_ : CallDet Tryz.prog 24 [.d m.d, .d y.d, .d (.int .i64 v)] [.slice 1 [], .int .i64 7] := by
   have e:routE m y v=7:=by unfold routE rtE; rw [e0,hR,decide_eq_false hd]; rfl
   rw [e] at h63; exact h63
  have hm1:at0 (m.dist 0) v.toNat=-1:=(hf.distOk (f:=0) (by omega) (by omega)).neg _ (by omega)
  rw [hm1] at hv
  have hnc:(m.reach v).contains 0=false:=by
   rw [Bool.eq_false_iff]
   intro hm
   rw [List.contains_iff_mem,reach_mem] at hm
   exact hd (reach_sym hf (a:=0) (b:=v) ⟨by omega,by omega⟩ ⟨h0,h1⟩ hm.2.2)
  have h2E:twoE m v 0=0:=by unfold twoE; rw [g.chk,hvE,hz]; rfl
  have hrl:=reach_len m v
  have hri:=ints_len (m.reach v)
  have c55_:CallDet Tryz.prog 55 [.d m.d,.d (.int .i64 v),.d (.int .i64 0)] [.slice 1 (ints (m.reach v)),.int .i64 0]:=by
   have h2:=c46 m v 0 (by omega) (by omega)
   have e:barrE m v 0=0:=by unfold barrE; rw [h2E,hnc]; rfl
   rw [e] at h2; exact h2
  have c56_:CallDet Tryz.prog 56 [.d m.d,.d (.int .i64 v),.d (.int .i64 0),.d (.slice 1 (ints (m.reach v)))] [.int .i64 0]:=by
   have h2:=c47 m v 0 (m.reach v) (by omega) (by omega) (by omega)
   have e:=reach_bar hf h0 h1 hnc
   rw [h2E,e] at h2; exact h2
  refine ca c8_ ?_
  refine ca c16_ ?_
  refine ca c24_ ?_
  refine ca c8_ ?_
  refine ca c54_ ?_
  refine sd ?_
  refine sd ?_
  refine b_ne (fun t1=>?_) (fun t1=>?_)
  (exfalso; omega)
  refine sd ?_
  refine ca c8_ ?_
  refine ca c55_ ?_
  refine sd ?_
  refine ix_at hv ?_ ?_
  assumption
  refine sd ?_
  refine sd ?_
  refine ca c8_ ?_
  refine sd ?_
  refine sd ?_
  refine an ?_ ?_
  refine an ?_ ?_
  exact rfl
  refine an ?_ ?_
  exact rfl
  refine an ?_ ?_
  exact rfl
  refine an ?_ ?_
  (show ((0:Nat)+List.length (ints (Ms.reach m v))) * (8:Nat)≤(2:Nat) ^ (47:Nat); omega)
  (show (0:Nat)+List.length (ints (Ms.reach m v))≤(2:Nat) ^ (47:Nat); omega)
  refine sd ?_
  refine ca c56_ ?_
  refine sd ?_
  exact rfl
end Vc
set_option maxRecDepth 10000
set_option maxHeartbeats 4000000
namespace Vc
open Go Go.Proofs
theorem brok_at {m:Ms} {s:Sts} (g:Good m s) {i:Int} {l:Lk} (hl:m.ls[i.toNat]?=some l) {k:Int} (hk:0≤k):(s.brok m i).at k=if (k=l.a∧(s.at k).ne=l.b)∨(k=l.b∧(s.at k).ne=l.a) then ⟨(s.at k).nu,(s.at k).di,-1⟩ else s.at k:=by
 have hin:=(chk_fine g.chk).link (List.mem_of_getElem? hl)
 have hle:=g.len
 have e:s.brok m i=⟨s.co,s.nu,cut2 s.es l⟩:=by unfold Sts.brok; rw [hl]
 rw [e]
 unfold cut2
 have h2:=cut1_at (s:=⟨s.co,s.nu,cut1 s.es l.a l.b⟩) (i:=l.b) (o:=l.a) (k:=k) (by omega) (by show l.b < ((cut1 _ _ _).length:Int); rw [cut1_len]; omega) hk
 have h1k:=cut1_at (s:=s) (i:=l.a) (o:=l.b) (k:=k) (by omega) (by omega) hk
 have h1b:=cut1_at (s:=s) (i:=l.a) (o:=l.b) (k:=l.b) (by omega) (by omega) (by omega)
 rw [if_neg (show ¬ (l.b=l.a∧(s.at l.a).ne=l.b) by omega)] at h1b
 rw [h1b,h1k] at h2
 refine h2.trans ?_
 by_cases c1:k=l.b
 ·subst c1
  by_cases c2:(s.at l.b).ne=l.a
  ·rw [if_pos ⟨rfl,c2⟩,if_pos (.inr ⟨rfl,c2⟩)]
  ·rw [if_neg (fun x=>c2 x.2),if_neg (show ¬ (l.b=l.a∧(s.at l.a).ne=l.b) by omega),if_neg]
   rintro (⟨x,_⟩ | ⟨_,x⟩)
   ·omega
   ·exact c2 x
 ·rw [if_neg (fun x=>c1 x.1)]
  by_cases c3:k=l.a
  ·subst c3
   by_cases c4:(s.at l.a).ne=l.b
   ·rw [if_pos ⟨rfl,c4⟩,if_pos (.inl ⟨rfl,c4⟩)]
   ·rw [if_neg (fun x=>c4 x.2),if_neg]
    rintro (⟨_,x⟩ | ⟨x,_⟩)
    ·exact c4 x
    ·exact c1 x
  ·rw [if_neg (fun x=>c3 x.1),if_neg]
   rintro (⟨x,_⟩ | ⟨x,_⟩)
   ·exact c3 x
   ·exact c1 x
theorem Good.brok {m:Ms} {s:Sts} (g:Good m s) {i:Int} (h0:0≤i) (h1:i < (m.ls.length:Int)):Good (m.brok i) (s.brok m i)∧Mono m s (s.brok m i):=by
 have hf:=chk_fine g.chk
 have hnu:=g.nu
 have hco:=g.co
 obtain ⟨l,hl⟩:=get_lt m.ls (k:=i.toNat) (by omega)
 have hin:=hf.link (List.mem_of_getElem? hl)
 have hat:∀ k:Int,0≤k→(s.brok m i).at k=if (k=l.a∧(s.at k).ne=l.b)∨(k=l.b∧(s.at k).ne=l.a) then ⟨(s.at k).nu,(s.at k).di,-1⟩ else s.at k:=fun k hk=>brok_at g hl hk
 have num:∀ k:Int,0≤k→((s.brok m i).at k).nu=(s.at k).nu∧((s.brok m i).at k).di=(s.at k).di:=fun k hk=>by
  rw [hat k hk]; split <;> exact ⟨rfl,rfl⟩
 have same:∀ k:Int,0≤k→k < (m.ns.length:Int)→((s.brok m i).at k).ne≠-1→(s.brok m i).at k=s.at k∧hit l k (s.at k).ne=false:=fun k hk hkl hn=>by
  rw [hat k hk] at hn ⊢
  split at hn
  ·exact absurd rfl hn
  ·rename_i hc
   rw [if_neg hc]
   refine ⟨rfl,?_⟩
   cases hh:hit l k (s.at k).ne
   ·rfl
   ·exfalso
    have h2:=hit_iff.1 hh
    apply hc
    omega
 have bets:∀ k:Int,0≤k→k < (m.ns.length:Int)→((s.brok m i).at k).ne≠-1→betw (m.brok i).ls k (s.at k).ne=betw m.ls k (s.at k).ne:=fun k hk hkl hn=>betw_erase hl (same k hk hkl hn).2
 refine ⟨⟨chk_of_fine (brok_fine hf i),g.co,g.nu,(brok_len2 s m i).trans g.len,?_,?_,?_,?_,?_⟩,?_⟩
 ·intro k hk hkl
  have r:=g.rng k hk hkl
  rw [hat k hk]
  show (0≤_∧_≤s.nu)∧_
  split
  ·refine ⟨r.1,r.2.1,?_,?_⟩
   ·show (-1:Int)≤-1; omega
   ·show (-1:Int) < (m.ns.length:Int); omega
  ·exact r
 ·show (s.brok m i).at s.co=⟨s.nu,0,s.co⟩
  rw [hat s.co hco.1,if_neg,g.coE]
  rw [g.coE]
  show ¬ ((s.co=l.a∧s.co=l.b)∨(s.co=l.b∧s.co=l.a))
  omega
 ·intro k hk hkl hc hz
  have hc:k≠s.co:=hc
  rw [(num k hk).1] at hz
  have hb:=g.bare k hk hkl hc hz
  rw [hat k hk,if_neg,hb]
  rw [hb]
  show ¬ ((k=l.a∧-1=l.b)∨(k=l.b∧-1=l.a))
  omega
 ·intro k hk hkl hc hz
  have hc:k≠s.co:=hc
  have hs:=same k hk hkl hz
  have hbe:=bets k hk hkl hz
  rw [hs.1] at hz ⊢
  rw [hbe]; exact g.lnk k hk hkl hc hz
 ·intro k hk hkl hc hz
  have hc:k≠s.co:=hc
  have r:=g.rng k hk hkl
  have hs:=same k hk hkl hz
  have hbe:=bets k hk hkl hz
  rw [hs.1] at hz ⊢
  rw [hbe,(num (s.at k).ne (by omega)).1,(num (s.at k).ne (by omega)).2]
  exact g.lead k hk hkl hc hz
 ·intro k hk hkl
  rw [(num k hk).1,(num k hk).2]
  exact .inr ⟨rfl,Int.le_refl _⟩
def jr4:AFun:=⟨151,8,[.tmp 6],
 (.seq
 (.reg [0,1,2] [⟨some 3,.cbx 0 2 (.tmp 0),none⟩,
  ⟨some 4,.cbx 1 2 (.tmp 1),none⟩,
  ⟨some 5,.cbx 2 2 (.tmp 2),none⟩,
  ⟨some 6,.mov (.cst (.d (.bool false))),none⟩])
 (.seq
  (.seq
  (.reg [] [⟨some 18,.ld true 2 (.tmp 3),none⟩,
   ⟨some 19,.call 5 [(.tmp 18)],none⟩,
   ⟨some 20,.not (.tmp 19),none⟩,
   ⟨some 21,.mov (.tmp 20),none⟩,
   ⟨some 22,.fad 0 (.tmp 5),some (21,false)⟩,
   ⟨some 23,.ld false 1 (.tmp 22),some (21,false)⟩,
   ⟨some 24,.len (.tmp 23),some (21,false)⟩,
   ⟨some 25,.cmp .lss (.tmp 24) (.cst (.d (.int .i64 1))),some (21,false)⟩,
   ⟨some 26,.pick (.tmp 21) (.cst (.d (.bool true))) (.tmp 25),none⟩,
   ⟨some 27,.mov (.tmp 26),none⟩,
   ⟨some 28,.fad 0 (.tmp 5),some (27,false)⟩,
   ⟨some 29,.ld false 1 (.tmp 28),some (27,false)⟩,
   ⟨some 30,.len (.tmp 29),some (27,false)⟩,
   ⟨some 31,.cmp .gtr (.tmp 30) (.cst (.d (.int .i64 12))),some (27,false)⟩,
   ⟨some 32,.pick (.tmp 27) (.cst (.d (.bool true))) (.tmp 31),none⟩,
   ⟨some 33,.mov (.tmp 32),none⟩,
   ⟨some 34,.fad 1 (.tmp 5),some (33,false)⟩,
   ⟨some 35,.ld false 1 (.tmp 34),some (33,false)⟩,
   ⟨some 36,.len (.tmp 35),some (33,false)⟩,
   ⟨some 37,.cmp .gtr (.tmp 36) (.cst (.d (.int .i64 4))),some (33,false)⟩,
   ⟨some 38,.pick (.tmp 33) (.cst (.d (.bool true))) (.tmp 37),none⟩])
  (.cond (.tmp 38)
   (.seq
   (.reg [] [⟨some 39,.call 6 [],none⟩,
    ⟨some 6,.mov (.tmp 39),none⟩])
   .ret)
   .skip))
  (.seq
  (.reg [] [⟨some 40,.ixp 2 1 (.tmp 4) (.cst (.d (.int .i64 0))),none⟩,
   ⟨some 41,.ld false 1 (.tmp 40),none⟩,
   ⟨some 42,.conv .i64 (.tmp 41),none⟩,
   ⟨some 43,.fad 0 (.tmp 3),none⟩,
   ⟨some 44,.ld false 1 (.tmp 43),none⟩,
   ⟨some 45,.len (.tmp 44),none⟩,
   ⟨some 46,.arith .rem .i64 (.tmp 42) (.tmp 45),none⟩,
   ⟨some 7,.mov (.tmp 46),none⟩])
  (.seq
   (.reg [3] [⟨some 48,.ld true 2 (.tmp 3),none⟩,
    ⟨some 49,.call 17 [(.tmp 48),(.cst (.d (.int .i64 0)))],none⟩,
    ⟨some 47,.mov (.tmp 49),none⟩,
    ⟨some 50,.ext 0 (.tmp 47),none⟩,
    ⟨some 51,.ext 1 (.tmp 47),none⟩,
    ⟨some 8,.alloc 3 [(.d (.int .i64 0)),(.d (.int .i64 0)),(.nils 3)],none⟩,
    ⟨none,.st 3 (.tmp 8) (.tmp 50),none⟩,
    ⟨some 9,.mov (.tmp 51),none⟩])
   (.seq
   (.seq
    (.reg [] [⟨some 52,.mov (.tmp 9),none⟩,
     ⟨some 53,.not (.tmp 52),none⟩,
     ⟨some 54,.mov (.tmp 53),none⟩,
     ⟨some 55,.ld true 2 (.tmp 3),some (54,false)⟩,
     ⟨some 56,.ld true 3 (.tmp 8),some (54,false)⟩,
     ⟨some 57,.call 10 [(.tmp 55),(.tmp 56)],some (54,false)⟩,
     ⟨some 58,.cmp .neq (.tmp 57) (.cst (.d (.int .i64 0))),some (54,false)⟩,
     ⟨some 59,.pick (.tmp 54) (.cst (.d (.bool true))) (.tmp 58),none⟩,
     ⟨some 60,.mov (.tmp 59),none⟩,
     ⟨some 61,.ld true 2 (.tmp 3),some (60,false)⟩,
     ⟨some 62,.ld true 3 (.tmp 8),some (60,false)⟩,
     ⟨some 63,.mov (.tmp 7),some (60,false)⟩,
     ⟨some 64,.ld true 2 (.tmp 5),some (60,false)⟩,
     ⟨some 65,.call 18 [(.tmp 61),(.tmp 62),(.tmp 63),(.tmp 64)],some (60,false)⟩,
     ⟨some 66,.not (.tmp 65),some (60,false)⟩,
     ⟨some 67,.pick (.tmp 60) (.cst (.d (.bool true))) (.tmp 66),none⟩])
    (.cond (.tmp 67)
    (.seq
     (.reg [] [⟨some 6,.mov (.cst (.d (.bool false))),none⟩])
     .ret)
    .skip))
   (.seq
    (.seq
    (.reg [] [⟨some 68,.fad 1 (.tmp 3),none⟩,
     ⟨some 69,.ld false 1 (.tmp 68),none⟩,
     ⟨some 70,.len (.tmp 69),none⟩,
     ⟨some 71,.cmp .eql (.tmp 70) (.cst (.d (.int .i64 0))),none⟩])
    (.cond (.tmp 71)
     (.seq
     (.reg [] [⟨some 72,.call 6 [],none⟩,
      ⟨some 6,.mov (.tmp 72),none⟩])
     .ret)
     .skip))
    (.seq
    (.regd [4,5] [⟨some 74,.ld true 2 (.tmp 3),none⟩,
     ⟨some 75,.call 8 [(.tmp 74)],none⟩,
     ⟨some 76,.ld true 3 (.tmp 8),none⟩,
     ⟨some 77,.call 16 [(.tmp 76)],none⟩,
     ⟨some 78,.ixp 2 1 (.tmp 4) (.cst (.d (.int .i64 1))),none⟩,
     ⟨some 79,.ld false 1 (.tmp 78),none⟩,
     ⟨some 80,.conv .i64 (.tmp 79),none⟩,
     ⟨some 81,.fad 1 (.tmp 3),none⟩,
     ⟨some 82,.ld false 1 (.tmp 81),none⟩,
     ⟨some 83,.len (.tmp 82),none⟩,
     ⟨some 84,.arith .rem .i64 (.tmp 80) (.tmp 83),none⟩,
     ⟨some 85,.call 19 [(.tmp 75),(.tmp 77),(.tmp 84)],none⟩,
     ⟨some 73,.mov (.tmp 85),none⟩,
     ⟨some 86,.ext 0 (.tmp 73),none⟩,
     ⟨some 87,.ext 1 (.tmp 73),none⟩,
     ⟨some 88,.ext 2 (.tmp 73),none⟩,
     ⟨some 10,.alloc 4 [(.nils 1),(.nils 3)],none⟩,
     ⟨some 11,.alloc 5 [(.d (.int .i64 0)),(.d (.int .i64 0)),(.nils 3)],none⟩,
     ⟨none,.st 2 (.tmp 10) (.tmp 86),none⟩,
     ⟨none,.st 3 (.tmp 11) (.tmp 87),none⟩,
     ⟨some 12,.mov (.tmp 88),none⟩] [(0,2),(1,2),(0,4),(1,4),(2,4),(3,4),(0,5),(1,5),(2,5),(3,5),(0,6),(1,6),(2,6),(3,6),(0,7),(1,7),(2,7),(3,7),(4,7),(5,7),(6,7),(0,8),(1,8),(2,8),(3,8),(4,8),(5,8),(6,8),(0,9),(1,9),(2,9),(3,9),(4,9),(5,9),(6,9),(0,10),(1,10),(2,10),(3,10),(13,14),(13,15),(14,15),(0,16),(1,16),(2,16),(3,16),(4,16),(5,16),(6,16),(7,16),(8,16),(9,16),(10,16),(11,16),(12,16),(13,16),(14,16),(15,16),(0,17),(1,17),(2,17),(3,17),(4,17),(5,17),(6,17),(7,17),(8,17),(9,17),(10,17),(11,17),(12,17),(13,17),(14,17),(15,17),(16,17),(14,18),(15,18),(15,19)])
    (.seq
     (.seq
     (.regd [] [⟨some 89,.mov (.tmp 12),none⟩,
      ⟨some 90,.cmp .neq (.tmp 89) (.cst (.d (.int .i64 0))),none⟩,
      ⟨some 91,.mov (.tmp 90),none⟩,
      ⟨some 92,.ld true 2 (.tmp 10),some (91,false)⟩,
      ⟨some 93,.call 20 [(.tmp 92)],some (91,false)⟩,
      ⟨some 94,.ld true 3 (.tmp 11),some (91,false)⟩,
      ⟨some 95,.call 11 [(.tmp 94)],some (91,false)⟩,
      ⟨some 96,.call 10 [(.tmp 93),(.tmp 95)],some (91,false)⟩,
      ⟨some 97,.cmp .neq (.tmp 96) (.cst (.d (.int .i64 0))),some (91,false)⟩,
      ⟨some 98,.pick (.tmp 91) (.cst (.d (.bool true))) (.tmp 97),none⟩,
      ⟨some 99,.mov (.tmp 98),none⟩,
      ⟨some 100,.fad 0 (.tmp 10),some (99,false)⟩,
      ⟨some 101,.ld false 1 (.tmp 100),some (99,false)⟩,
      ⟨some 102,.len (.tmp 101),some (99,false)⟩,
      ⟨some 103,.fad 0 (.tmp 3),some (99,false)⟩,
      ⟨some 104,.ld false 1 (.tmp 103),some (99,false)⟩,
      ⟨some 105,.len (.tmp 104),some (99,false)⟩,
      ⟨some 106,.cmp .neq (.tmp 102) (.tmp 105),some (99,false)⟩,
      ⟨some 107,.pick (.tmp 99) (.cst (.d (.bool true))) (.tmp 106),none⟩] [(3,5),(4,5),(11,14),(12,14),(13,14),(11,15),(12,15),(13,15),(11,16),(12,16),(13,16)])
     (.cond (.tmp 107)
      (.seq
      (.reg [] [⟨some 6,.mov (.cst (.d (.bool false))),none⟩])
      .ret)
      .skip))
     (.seq
     (.regd [6] [⟨some 109,.ld true 2 (.tmp 10),none⟩,
      ⟨some 110,.call 20 [(.tmp 109)],none⟩,
      ⟨some 111,.call 8 [(.tmp 110)],none⟩,
      ⟨some 112,.ld true 3 (.tmp 11),none⟩,
      ⟨some 113,.call 11 [(.tmp 112)],none⟩,
      ⟨some 114,.call 16 [(.tmp 113)],none⟩,
      ⟨some 115,.call 21 [(.tmp 111),(.tmp 114)],none⟩,
      ⟨some 108,.mov (.tmp 115),none⟩,
      ⟨some 116,.ext 0 (.tmp 108),none⟩,
      ⟨some 117,.ext 1 (.tmp 108),none⟩,
      ⟨some 13,.alloc 6 [(.d (.int .i64 0)),(.d (.int .i64 0)),(.nils 3)],none⟩,
      ⟨none,.st 3 (.tmp 13) (.tmp 116),none⟩,
      ⟨some 14,.mov (.tmp 117),none⟩] [(0,3),(1,3),(2,3),(8,9),(0,10),(1,10),(2,10),(3,10),(4,10),(5,10),(6,10),(7,10),(8,10),(9,10),(9,11)])
     (.seq
      (.seq
      (.reg [] [⟨some 118,.mov (.tmp 14),none⟩,
       ⟨some 119,.cmp .neq (.tmp 118) (.cst (.d (.int .i64 0))),none⟩])
      (.cond (.tmp 119)
       (.seq
       (.reg [] [⟨some 6,.mov (.cst (.d (.bool false))),none⟩])
       .ret)
       .skip))
      (.seq
      (.regd [7] [⟨some 121,.ld true 2 (.tmp 10),none⟩,
       ⟨some 122,.call 20 [(.tmp 121)],none⟩,
       ⟨some 123,.call 8 [(.tmp 122)],none⟩,
       ⟨some 124,.ld true 3 (.tmp 13),none⟩,
       ⟨some 125,.call 22 [(.tmp 123),(.tmp 124)],none⟩,
       ⟨some 120,.mov (.tmp 125),none⟩,
       ⟨some 126,.ext 0 (.tmp 120),none⟩,
       ⟨some 127,.ext 1 (.tmp 120),none⟩,
       ⟨some 128,.ext 2 (.tmp 120),none⟩,
       ⟨some 15,.alloc 7 [(.d (.int .i64 0)),(.d (.int .i64 0)),(.nils 3)],none⟩,
       ⟨none,.st 3 (.tmp 15) (.tmp 126),none⟩,
       ⟨some 16,.mov (.tmp 127),none⟩,
       ⟨some 17,.mov (.tmp 128),none⟩] [(0,3),(1,3),(2,3),(6,7),(6,8),(7,8),(0,9),(1,9),(2,9),(3,9),(4,9),(5,9),(6,9),(7,9),(8,9),(7,10),(8,10),(8,11)])
      (.seq
       (.regd [] [⟨some 129,.mov (.tmp 17),none⟩,
        ⟨some 130,.cmp .eql (.tmp 129) (.cst (.d (.int .i64 0))),none⟩,
        ⟨some 131,.mov (.tmp 130),none⟩,
        ⟨some 132,.ld true 2 (.tmp 10),some (131,true)⟩,
        ⟨some 133,.call 20 [(.tmp 132)],some (131,true)⟩,
        ⟨some 134,.ld true 3 (.tmp 15),some (131,true)⟩,
        ⟨some 135,.call 11 [(.tmp 134)],some (131,true)⟩,
        ⟨some 136,.call 10 [(.tmp 133),(.tmp 135)],some (131,true)⟩,
        ⟨some 137,.cmp .eql (.tmp 136) (.cst (.d (.int .i64 0))),some (131,true)⟩,
        ⟨some 138,.pick (.tmp 131) (.tmp 137) (.cst (.d (.bool false))),none⟩,
        ⟨some 139,.mov (.tmp 138),none⟩,
        ⟨some 140,.ld true 2 (.tmp 10),some (139,true)⟩,
        ⟨some 141,.call 20 [(.tmp 140)],some (139,true)⟩,
        ⟨some 142,.ld true 3 (.tmp 15),some (139,true)⟩,
        ⟨some 143,.call 11 [(.tmp 142)],some (139,true)⟩,
        ⟨some 144,.mov (.tmp 7),some (139,true)⟩,
        ⟨some 145,.ld true 2 (.tmp 5),some (139,true)⟩,
        ⟨some 146,.call 18 [(.tmp 141),(.tmp 143),(.tmp 144),(.tmp 145)],some (139,true)⟩,
        ⟨some 147,.pick (.tmp 139) (.tmp 146) (.cst (.d (.bool false))),none⟩,
        ⟨some 148,.mov (.tmp 147),none⟩,
        ⟨some 149,.call 6 [],some (148,true)⟩,
        ⟨some 150,.pick (.tmp 148) (.tmp 149) (.cst (.d (.bool false))),none⟩,
        ⟨some 6,.mov (.tmp 150),none⟩] [(3,5),(4,5),(11,13),(12,13),(11,15),(12,15),(13,15),(14,15),(11,16),(12,16),(13,16),(14,16),(15,16)])
       .ret))))))))))))⟩
theorem k4 (m : Ms) (q0 q1 : Int) (b : List UInt8) (l : List (Int × Int × Bool)) (hm : m.ns.length ≤ 1048576) (hl : m.ls.length ≤ 1048576) (hq0 : 0 ≤ q0 ∧ q0 ≤ 255) (hq1 : 0 ≤ q1 ∧ q1 ≤ 255) :
  CallDet Tryz.prog 4 [.d m.d,.d (.agg [.int .u8 q0,.int .u8 q1]),.d (.agg [.slice 1 (b.map L.byt),.slice 3 (hops l)])] [.bool true]:=by
 have c6_:=k6
 have hsl:=strs_len m.ns
 have hll:=lks_len m.ls
 have hbl:(b.map L.byt).length=b.length:=List.length_map _
 have hhl:=hops_len l
 have h5:=k5 m hm hl
 refine call_of_vc (x:=jr4) (by kernel_rfl) rfl ?_
 by_cases hfw:fewT m=true
 ·have c5_:CallDet Tryz.prog 5 [.d m.d] [.bool true]:=by rw [hfw] at h5; exact h5
  have hf4:(1≤(m.ns.length:Int)∧(m.ns.length:Int)≤7)∧(m.ls.length:Int)≤14∧m.chk=0:=by
   unfold fewT at hfw
   simp only [Bool.and_eq_true,decide_eq_true_eq,beq_iff_eq] at hfw
   exact ⟨⟨hfw.1,hfw.2.1⟩,hfw.2.2.1,hfw.2.2.2⟩
  have hn1:=hf4.1.1
  have hn8:=hf4.1.2
  have hchk:=hf4.2.2
  by_cases hx:(1≤(b.length:Int)∧(b.length:Int)≤12)∧(l.length:Int)≤4
  ·have hx1:=hx.1.1
   have hx2:=hx.1.2
   have hx3:=hx.2
   have hn0:((strs m.ns).length:Int)≠0:=by omega
   have hpos:0 < ((strs m.ns).length:Int):=by omega
   have w0:0≤IntKind.i64.wrap q0:=by rw [IntKind.wrap_i64]; omega
   have w1:0≤IntKind.i64.wrap q1:=by rw [IntKind.wrap_i64]; omega
   have a0:0≤IntKind.i64.wrap q0 % ((strs m.ns).length:Int):=Int.emod_nonneg _ hn0
   have a1:=Int.emod_lt_of_pos (IntKind.i64.wrap q0) hpos
   have hcm:=calm_begun (f:=0) hchk (by omega) (by omega)
   have g:=hcm.g
   have hgl:=g.len
   have c17_:=k17 m 0 hchk (by omega) (by omega)
   have c10_0:CallDet Tryz.prog 10 [.d m.d,.d (m.rest 0).d] [.int .i64 0]:=by
    have h2:=c34 m (m.rest 0) hm hl (by omega)
    rw [of_good g] at h2; exact h2
   have hrco:(m.rest 0).co=0:=rounds_co m (m.begun 0) _
   have hrnu:(m.rest 0).nu=1:=rounds_nu m (m.begun 0) _
   have c18_0:=k18 hcm hrco _ a0 (by omega) b (by omega) (by omega) l (by omega)
   have c8_0:=c18 m hm hl
   have c16_0:=c33 (m.rest 0) (by omega)
   by_cases hlz:(m.ls.length:Int)=0
   ·refine ca c5_ ?_
    refine sd ?_
    refine b_lt (fun t1=>?_) (fun t1=>?_)
    (exfalso; omega)
    refine sd ?_
    refine b_lt (fun t2=>?_) (fun t2=>?_)
    (exfalso; omega)
    refine sd ?_
    refine b_lt (fun t3=>?_) (fun t3=>?_)
    (exfalso; omega)
    refine an ?_ ?_
    refine an ?_ ?_
    (show (0:Int)≤(0:Int); omega)
    (show (0:Int) < (↑(2:Nat):Int); omega)
    refine ca rfl ?_
    refine ar_rem ?_ ?_
    refine an ?_ ?_
    assumption
    assumption
    refine ca c17_ ?_
    refine ca c10_0 ?_
    refine sd ?_
    refine ca c18_0 ?_
    refine sd ?_
    refine b_eq (fun t4=>?_) (fun t4=>?_)
    refine ca c6_ ?_
    exact rfl
    (exfalso; omega)
   ·have hl0:((lks m.ls).length:Int)≠0:=by omega
    have hlpos:0 < ((lks m.ls).length:Int):=by omega
    have b0:0≤IntKind.i64.wrap q1 % ((lks m.ls).length:Int):=Int.emod_nonneg _ hl0
    have b1:=Int.emod_lt_of_pos (IntKind.i64.wrap q1) hlpos
    have gbr:=(g.brok (i:=IntKind.i64.wrap q1 % ((lks m.ls).length:Int)) b0 (by omega)).1
    have c19_:CallDet Tryz.prog 19 [.d m.d,.d (m.rest 0).d,.d (.int .i64 (IntKind.i64.wrap q1 % ((lks m.ls).length:Int)))] [(m.brok (IntKind.i64.wrap q1 % ((lks m.ls).length:Int))).d,((m.rest 0).brok m (IntKind.i64.wrap q1 % ((lks m.ls).length:Int))).d,.int .i64 0]:=by
     have h2:=c60 m (m.rest 0) (IntKind.i64.wrap q1 % ((lks m.ls).length:Int)) hm hl (by omega)
     have e:brokE m (m.rest 0) (IntKind.i64.wrap q1 % ((lks m.ls).length:Int))=0:=by
      unfold brokE outN
      rw [of_good g,decide_eq_false (by omega),decide_eq_false (by omega)]; rfl
     rw [e] at h2; exact h2
    have hbn:(m.brok (IntKind.i64.wrap q1 % ((lks m.ls).length:Int))).ns=m.ns:=rfl
    have hblen:(m.brok (IntKind.i64.wrap q1 % ((lks m.ls).length:Int))).ls.length≤m.ls.length:=by show (m.ls.eraseIdx _).length≤_; exact List.length_eraseIdx_le _ _
    have hbnu:((m.rest 0).brok m (IntKind.i64.wrap q1 % ((lks m.ls).length:Int))).nu=1:=hrnu
    have hbco:((m.rest 0).brok m (IntKind.i64.wrap q1 % ((lks m.ls).length:Int))).co=0:=hrco
    generalize m.brok (IntKind.i64.wrap q1 % ((lks m.ls).length:Int))=m2 at *
    generalize (m.rest 0).brok m (IntKind.i64.wrap q1 % ((lks m.ls).length:Int))=s2 at *
    have hbn2:m2.ns.length=m.ns.length:=by rw [hbn]
    have hsl2:=strs_len m2.ns
    have hs2l:=gbr.len
    have gbe:=(gbr.beac (by omega)).1
    have hbel:=gbe.len
    have hcm2:=calm_beaced gbr (by omega)
    have g3:=hcm2.g
    have hg3l:=g3.len
    have h3co:(s2.beac.allP m2).co=0:=(rounds_co m2 s2.beac _).trans hbco
    have c20_:=k20 m2 (by omega) (by omega)
    have c11_1:=c59 s2 (by omega)
    have c10_1:CallDet Tryz.prog 10 [.d m2.d,.d s2.d] [.int .i64 0]:=by
     have h2:=c34 m2 s2 (by omega) (by omega) (by omega)
     rw [of_good gbr] at h2; exact h2
    have c8_1:=c18 m2 (by omega) (by omega)
    have c16_1:=c33 s2 (by omega)
    have c21_:CallDet Tryz.prog 21 [.d m2.d,.d s2.d] [s2.beac.d,.int .i64 0]:=by
     have h2:=c32 m2 s2 (by omega) (by omega) (by omega)
     have e:beacE m2 s2=0:=by
      unfold beacE
      rw [of_good gbr,show (s2.nu==1000000)=false by rw [beq_eq_false_iff_ne]; omega]; rfl
     rw [e] at h2; exact h2
    have c22_:CallDet Tryz.prog 22 [.d m2.d,.d s2.beac.d] [(s2.beac.allP m2).d,.int .i64 (s2.beac.K m2),.int .i64 0]:=by
     have h2:=c54 m2 s2.beac (by omega) (by omega) (by omega)
     rw [of_good gbe] at h2; exact h2
    have c11_2:=c59 (s2.beac.allP m2) (by omega)
    have c10_2:CallDet Tryz.prog 10 [.d m2.d,.d (s2.beac.allP m2).d] [.int .i64 0]:=by
     have h2:=c34 m2 (s2.beac.allP m2) (by omega) (by omega) (by omega)
     rw [of_good g3] at h2; exact h2
    have c18_1:=k18 hcm2 h3co _ a0 (by omega) b (by omega) (by omega) l (by omega)
    refine ca c5_ ?_
    refine sd ?_
    refine b_lt (fun t1=>?_) (fun t1=>?_)
    (exfalso; omega)
    refine sd ?_
    refine b_lt (fun t2=>?_) (fun t2=>?_)
    (exfalso; omega)
    refine sd ?_
    refine b_lt (fun t3=>?_) (fun t3=>?_)
    (exfalso; omega)
    refine an ?_ ?_
    refine an ?_ ?_
    (show (0:Int)≤(0:Int); omega)
    (show (0:Int) < (↑(2:Nat):Int); omega)
    refine ca rfl ?_
    refine ar_rem ?_ ?_
    refine an ?_ ?_
    assumption
    assumption
    refine ca c17_ ?_
    refine ca c10_0 ?_
    refine sd ?_
    refine ca c18_0 ?_
    refine sd ?_
    refine b_eq (fun t4=>?_) (fun t4=>?_)
    (exfalso; omega)
    refine ca c8_0 ?_
    refine ca c16_0 ?_
    refine an ?_ ?_
    refine an ?_ ?_
    (show (0:Int)≤(1:Int); omega)
    (show (1:Int) < (↑(2:Nat):Int); omega)
    refine ca rfl ?_
    refine ar_rem ?_ ?_
    refine an ?_ ?_
    assumption
    assumption
    refine ca c19_ ?_
    refine sd ?_
    refine ca c20_ ?_
    refine ca c11_1 ?_
    refine ca c10_1 ?_
    refine sd ?_
    refine sd ?_
    refine b_ne (fun t5=>?_) (fun t5=>?_)
    (exfalso; omega)
    refine ca c20_ ?_
    refine ca c8_1 ?_
    refine ca c11_1 ?_
    refine ca c16_1 ?_
    refine ca c21_ ?_
    refine sd ?_
    refine ca c20_ ?_
    refine ca c8_1 ?_
    refine ca c22_ ?_
    refine sd ?_
    refine ca c20_ ?_
    refine ca c11_2 ?_
    refine ca c10_2 ?_
    refine sd ?_
    refine ca c20_ ?_
    refine ca c11_2 ?_
    refine ca c18_1 ?_
    refine ca c6_ ?_
    exact rfl
  ·refine ca c5_ ?_
   refine sd ?_
   refine b_lt (fun t1=>?_) (fun t1=>?_)
   refine sd ?_
   refine sd ?_
   refine ca c6_ ?_
   exact rfl
   refine sd ?_
   refine b_lt (fun t2=>?_) (fun t2=>?_)
   refine sd ?_
   refine ca c6_ ?_
   exact rfl
   refine sd ?_
   refine b_lt (fun t3=>?_) (fun t3=>?_)
   refine ca c6_ ?_
   exact rfl
   (exfalso; omega)
 ·have hff:fewT m=false:=by simpa using hfw
  have c5_:CallDet Tryz.prog 5 [.d m.d] [.bool false]:=by rw [hff] at h5; exact h5
  refine ca c5_ ?_
  refine sd ?_
  refine sd ?_
  refine sd ?_
  refine ca c6_ ?_
  exact rfl
end Vc
