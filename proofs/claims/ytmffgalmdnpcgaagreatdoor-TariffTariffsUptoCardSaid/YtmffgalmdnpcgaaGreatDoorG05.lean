import Derived.Test.YtmffgalmdnpcgaaGreatDoorG04
set_option linter.unusedSectionVars false
set_option linter.unusedVariables false
set_option linter.unusedSimpArgs false
set_option linter.unusedVariables false
namespace Vc
open Go
def getH:List AObj→Nat→Option AObj
 | [],_=>none
 | o::_,0=>some o
 | _::r,i+1=>getH r i
def runEff:Eff→List AObj→Option (AVal × List (Nat × AObj) × List Nat)
 | .ret v ws,_=>some (v,ws,[])
 | .rd id k,h=>match getH h id with
  | some o=>match runEff (k o) h with
   | some (v,ws,rs)=>some (v,ws,id::rs)
   | none=>none
  | none=>none
 | .all k,h=>match runEff (k h) h with
  | some (v,ws,rs)=>some (v,ws,List.range h.length++rs)
  | none=>none
 | _,_=>none
def forceN {α:Type} (n:Nat) (K:Nat→α):α :=
 match n with
 | 0=>K 0
 | Nat.succ m=>K (Nat.succ m)
def forceI {α:Type} (n:Int) (K:Int→α):α :=
 match n with
 | .ofNat m=>forceN m fun m=>K (.ofNat m)
 | .negSucc m=>forceN m fun m=>K (.negSucc m)
def forceB {α:Type} (b:Bool) (K:Bool→α):α :=
 match b with
 | true=>K true
 | false=>K false
def forceLs {α β:Type}:List β→(List β→α)→α
 | [],K=>K []
 | x::r,K=>forceLs r fun r'=>K (x::r')
theorem forceN_eq {α:Type} (n:Nat) (K:Nat→α):forceN n K=K n:=by cases n <;> rfl
theorem forceI_eq {α:Type} (n:Int) (K:Int→α):forceI n K=K n:=by cases n <;> simp [forceI,forceN_eq]
theorem forceB_eq {α:Type} (n:Bool) (K:Bool→α):forceB n K=K n:=by cases n <;> rfl
theorem forceLs_eq {α β:Type}:∀ (l:List β) (K:List β→α),forceLs l K=K l
 | [],_=>rfl
 | x::r,K=>by simp only [forceLs]; exact forceLs_eq r _
def fits (k:IntKind) (n:Int):Bool :=
 match k,n with
 | .i64,.ofNat m=>Nat.ble m 9223372036854775807
 | .i64,.negSucc m=>Nat.ble m 9223372036854775807
 | .u8,.ofNat m=>Nat.ble m 255
 | .u32,.ofNat m=>Nat.ble m 4294967295
 | .u64,.ofNat m=>Nat.ble m 18446744073709551615
 | .i32,.ofNat m=>Nat.ble m 2147483647
 | .i32,.negSucc m=>Nat.ble m 2147483647
 | _,_=>false
def wrapX (k:IntKind) (n:Int):Int :=
 match fits k n with
 | true=>n
 | false=>k.wrap n
def retI (k:IntKind) (n:Int):Eff:=forceI n fun n=>.ret (.d (.int k n)) []
def retB (b:Bool):Eff:=forceB b fun b=>.ret (.d (.bool b)) []
def retS (l:List UInt8):Eff:=forceLs l fun l=>.ret (.d (.str l)) []
def kEq (a b:IntKind):Bool :=
 match a,b with
 | .i64,.i64 | .u8,.u8 | .i32,.i32 | .u32,.u32 | .u64,.u64 | .i8,.i8 | .i16,.i16 | .u16,.u16=>true
 | _,_=>false
def arithX (op:BinOp) (k:IntKind) (a b:Int):Option Int :=
 match op with
 | .add=>some (wrapX k (a+b))
 | .sub=>some (wrapX k (a - b))
 | .mul=>some (wrapX k (a * b))
 | .quo=>match b with
  | .ofNat 0=>none
  | _=>some (wrapX k (a.tdiv b))
 | .rem=>match b with
  | .ofNat 0=>none
  | _=>some (a.tmod b)
 | _=>none
mutual
def pvX:AVal→(AVal→List (Nat × AObj)→Eff)→Eff
 | .sl id m,k=>.rd id fun o=>match o with
  | .row t sz es _=>match Nat.beq es.length m with
   | true=>k (.d (.slice sz es)) [(id,.row t sz es true)]
   | false=>.fail
  | _=>.fail
 | .nils sz,k=>k (.d (.slice sz [])) []
 | .agg vs,k=>pvsX vs fun ds ws=>k (.d (.agg ds)) ws
 | .d x,k=>k (.d x) []
 | .cp cs o,k=>k (.cp cs o) []
 | .anyn _ [],_=>.fail
 | .anyn neg (_::_),k=>k (.d (.bool neg)) []
 | _,_=>.fail
def pvsX:List AVal→(List Data→List (Nat × AObj)→Eff)→Eff
 | [],k=>k [] []
 | v::vs,k=>pvX v fun x ws=>match x with
  | .d d=>pvsX vs fun ds ws'=>k (d::ds) (ws++ws')
  | _=>.fail
end
def pvLX:List AVal→(List AVal→List (Nat × AObj)→Eff)→Eff
 | [],k=>k [] []
 | v::vs,k=>pvX v fun x ws=>pvLX vs fun xs ws'=>k (x::xs) (ws++ws')
def cellsX (v:AVal) (k:List AVal→Eff):Eff :=
 match v with
 | .d (.agg cs)=>k (dcells cs)
 | .agg vs=>k vs
 | .d x=>k [.d x]
 | .nils sz=>k [.nils sz]
 | .ptr id off=>k [.ptr id off]
 | .cp cs off=>k [.cp cs off]
 | .fn f a b=>k [.fn f a b]
 | .mp id=>k [.mp id]
 | .sl id m=>.rd id fun o=>match o with
  | .row _ _ es _=>match Nat.beq es.length m with
   | true=>k [.sl id m]
   | false=>.fail
  | _=>.fail
 | _=>.fail
def partsX:List AVal→List (Nat × Nat × AVal)→Eff
 | cells,[]=>.ret (ofCells cells) []
 | cells,(off,n,v)::r=>cellsX v fun cs=>match cut cells off n with
  | some _=>match Nat.beq cs.length n with
   | true=>forceLs (lay cells off cs) fun l=>partsX l r
   | false=>.fail
  | none=>.fail
def elemsX (sz:Nat) (es:List Data):List (Nat × AVal)→(List Data→List (Nat × AObj)→Eff)→Eff
 | [],k=>k es []
 | (i,v)::r,k=>pvX v fun x ws=>match x with
  | .d d=>match Nat.beq d.cells.length sz with
   | true=>forceLs (es.set i d) fun es=>elemsX sz es r fun es' ws'=>k es' (ws++ws')
   | false=>.fail
  | _=>.fail
def readX (v:AVal) (k:Nat→List Data→Eff):Eff :=
 match v with
 | .d (.slice sz es)=>k sz es
 | .nils sz=>k sz []
 | .sl id m=>.rd id fun o=>match o with
  | .row _ sz es _=>match Nat.beq es.length m with
   | true=>k sz es
   | false=>.fail
  | _=>.fail
 | .bw id m=>.rd id fun o=>match o with
  | .box cs=>match allD cs with
   | some ds=>match Nat.beq ds.length m with
    | true=>k 1 ds
    | false=>.fail
   | none=>.fail
  | _=>.fail
 | _=>.fail
def guardX (b:Bool) (k:Eff):Eff :=
 match b with
 | true=>k
 | false=>.fail
structure Known where
 det:FuncId→List AVal→Option (List Data)
 inn:FuncId→List AVal→List AObj→Option (AVal × List AObj)
 yld:Nat→List AVal→List AObj→Option (AVal × List AObj)
 vars:List (Nat × List Data)
 row:FuncId→List AVal→Option (Nat × Nat × List Data)
structure Env where
 vars:List (Nat × List Data)
 row:FuncId→List AVal→Option (Nat × Nat × List Data)
mutual
def eqD:Data→Data→Bool
 | .int k n,.int k' n'=>kEq k k'&&(n==n')
 | .bool a,.bool b=>a==b
 | .str a,.str b=>a==b
 | .agg a,.agg b=>eqDs a b
 | .slice z a,.slice z' b=>Nat.beq z z'&&eqDs a b
 | .fn (.func f) a,.fn (.func g) b=>Nat.beq f g&&eqDs a b
 | _,_=>false
def eqDs:List Data→List Data→Bool
 | [],[]=>true
 | a::r,b::s=>eqD a b&&eqDs r s
 | _,_=>false
end
mutual
def eqV:AVal→AVal→Bool
 | .d a,.d b=>eqD a b
 | .nils a,.nils b=>Nat.beq a b
 | .sl a n,.sl b m=>Nat.beq a b&&Nat.beq n m
 | .ptr a n,.ptr b m=>Nat.beq a b&&Nat.beq n m
 | .mp a,.mp b=>Nat.beq a b
 | .cp a n,.cp b m=>eqDs a b&&Nat.beq n m
 | .fn (.func f) a c,.fn (.func g) b d=>Nat.beq f g&&(eqVs a b&&eqVs c d)
 | .undef,.undef=>true
 | .gone,.gone=>true
 | .yld a,.yld b=>Nat.beq a b
 | _,_=>false
def eqVs:List AVal→List AVal→Bool
 | [],[]=>true
 | a::r,b::s=>eqV a b&&eqVs r s
 | _,_=>false
end
def eqM:List (Data × Data)→List (Data × Data)→Bool
 | [],[]=>true
 | (a,b)::r,(c,d)::s=>eqD a c&&(eqD b d&&eqM r s)
 | _,_=>false
def eqO:AObj→AObj→Bool
 | .none,.none=>true
 | .row t z es f,.row t' z' es' f'=>Nat.beq t t'&&(Nat.beq z z'&&(f==f'&&eqDs es es'))
 | .box a,.box b=>eqVs a b
 | .cbox a,.cbox b=>eqDs a b
 | .mapo a,.mapo b=>eqM a b
 | _,_=>false
def diffH:Nat→List AObj→List AObj→List (Nat × AObj)
 | k,o::r,o'::r'=>match eqO o o' with
  | true=>diffH (k+1) r r'
  | false=>(k,o')::diffH (k+1) r r'
 | _,_,_=>[]
def callX (C:Known) (f:FuncId) (args:List AVal):Eff :=
 pvLX args fun xs ws=>match C.det f xs with
  | some rs=>match ws with
   | []=>.ret (resV rs) []
   | ws=>match Data.flats rs with
    | true=>.ret (resV rs) []
    | false=>.ret (resV rs) ws
  | none=>.fail
def innX (C:Known) (f:FuncId) (args:List AVal):Eff :=
 .all fun h=>match C.inn f args h with
  | some (v,h')=>.ret v (diffH 0 h h')
  | none=>.fail
def yldX (C:Known) (id:Nat) (args:List AVal):Eff :=
 .all fun h=>match C.yld id args h with
  | some (v,h')=>.ret v (diffH 0 h h')
  | none=>.fail
def rowX (C:Known) (r t sz:Nat) (f:FuncId) (args:List AVal):Eff :=
 pvLX args fun xs ws=>.rd r fun o=>match o with
  | .none=>match C.row f xs with
   | some (t',sz',es)=>guardX (Nat.beq t' t&&Nat.beq sz' sz) (.ret (.sl r es.length) (ws++[(r,.row t sz es false)]))
   | none=>.fail
  | _=>.fail
def pX (C:Known) (f:FuncId) (args:List AVal):Eff :=
 match pureL args with
 | true=>callX C f args
 | false=>innX C f args
def natOf:Int→Option Nat
 | .ofNat n=>some n
 | .negSucc _=>none
def boundX (v:Option AVal) (k:Nat→Eff) (dflt:Nat):Eff :=
 match v with
 | none=>k dflt
 | some (.d (.int _ i))=>match natOf i with
  | some n=>k n
  | none=>.fail
 | _=>.fail
def flatL:List Data→Bool
 | []=>true
 | d::r=>!d.isAgg&&flatL r
def xMov (C:Known) (s:Nat→AVal) (x:Opd):Eff :=
 .ret (ev s x) []
def xPick (C:Known) (s:Nat→AVal) (c:Opd) (a:Opd) (b:Opd):Eff :=
 match ev s c with
  | .d (.bool c)=>match ev s a,ev s b with
   | .d (.bool x),.d (.bool y)=>retB (cond c x y)
   | .d (.bool x),.gone=>guardX c (.ret (.d (.bool x)) [])
   | .gone,.d (.bool y)=>guardX (!c) (.ret (.d (.bool y)) [])
   | _,_=>.fail
  | _=>.fail
def xAlloc (C:Known) (s:Nat→AVal) (r:Nat) (cs:List AVal):Eff :=
 .rd r fun o=>match o with
  | .none=>.ret (.ptr r 0) [(r,.box cs)]
  | _=>.fail
def xBox (C:Known) (s:Nat→AVal) (r:Nat) (n:Nat) (x:Opd):Eff :=
 .rd r fun o=>match o with
  | .none=>cellsX (ev s x) fun cs=>.ret (.ptr r 0) [(r,.box cs)]
  | _=>.fail
def xLd (C:Known) (s:Nat→AVal) (ag:Bool) (n:Nat) (x:Opd):Eff :=
 match ev s x with
  | .ptr id off=>.rd id fun o=>match o with
   | .box cs=>loadE ag n off cs
   | .cbox ds=>loadD ag n off ds
   | _=>.fail
  | .cp cs off=>loadD ag n off cs
  | .ep id m i off=>.rd id fun o=>match o with
   | .row _ _ es _=>guardX (Nat.beq es.length m) (match es[i]? with
    | some d=>loadD ag n off d.cells
    | none=>.fail)
   | _=>.fail
  | .gp g off=>match gfind g C.vars with
   | some ds=>loadD ag n off ds
   | none=>.fail
  | _=>.fail
def xSt (C:Known) (s:Nat→AVal) (n:Nat) (x:Opd) (v:Opd):Eff :=
 match ev s x with
  | .ptr id off=>.rd id fun o=>match o with
   | .box cs=>cellsX (ev s v) fun vs=>match cut cs off n,Nat.beq vs.length n with
    | some _,true=>forceLs (lay cs off vs) fun l=>.ret .undef [(id,.box l)]
    | _,_=>.fail
   | _=>.fail
  | .ep id m i off=>pvX (ev s v) fun x ws=>match x,notW id ws with
   | .d y,true=>.rd id fun o=>match o with
    | .row t sz es false=>guardX (Nat.beq es.length m) (match es[i]? with
     | some d=>guardX (Nat.beq y.cells.length n&&Nat.ble (off+n) d.cells.length) (match d with
      | .agg cs=>forceLs (lay cs off y.cells) fun l=>forceLs (es.set i (.agg l)) fun es'=>.ret .undef (ws++[(id,.row t sz es' false)])
      | _=>match y.isAgg,off,n with
       | false,0,1=>forceLs (es.set i y) fun es'=>.ret .undef (ws++[(id,.row t sz es' false)])
       | _,_,_=>.fail)
     | none=>.fail)
    | _=>.fail
   | _,_=>.fail
  | _=>.fail
def xArith (C:Known) (s:Nat→AVal) (op:BinOp) (k:IntKind) (x:Opd) (y:Opd):Eff :=
 match ev s x,ev s y with
  | .d (.int k1 a),.d (.int k2 b)=>match kEq k1 k&&kEq k2 k,arithX op k a b with
   | true,some r=>retI k r
   | _,_=>.fail
  | _,_=>.fail
def xCmp (C:Known) (s:Nat→AVal) (op:BinOp) (x:Opd) (y:Opd):Eff :=
 match ev s x,ev s y with
  | .d (.int k1 a),.d (.int k2 b)=>guardX (kEq k1 k2) (retB (cmpF op a b))
  | _,_=>.fail
def xBeq (C:Known) (s:Nat→AVal) (neg:Bool) (x:Opd) (y:Opd):Eff :=
 match ev s x,ev s y with
  | .d (.bool a),.d (.bool b)=>retB (cond neg (a != b) (a==b))
  | _,_=>.fail
def xSeq (C:Known) (s:Nat→AVal) (neg:Bool) (x:Opd) (y:Opd):Eff :=
 match ev s x,ev s y with
  | .d (.str a),.d (.str b)=>retB (cond neg (a != b) (a==b))
  | _,_=>.fail
def xSlt (C:Known) (s:Nat→AVal) (op:BinOp) (x:Opd) (y:Opd):Eff :=
 match ev s x,ev s y with
  | .d (.str a),.d (.str b)=>retB (sltF op a b)
  | _,_=>.fail
def xCat (C:Known) (s:Nat→AVal) (x:Opd) (y:Opd):Eff :=
 match ev s x,ev s y with
  | .d (.str a),.d (.str b)=>guardX (Nat.ble (a.length+b.length) 9223372036854775807) (retS (a++b))
  | _,_=>.fail
def xNot (C:Known) (s:Nat→AVal) (x:Opd):Eff :=
 match ev s x with
  | .d (.bool b)=>retB (!b)
  | _=>.fail
def xConv (C:Known) (s:Nat→AVal) (k:IntKind) (x:Opd):Eff :=
 match ev s x with
  | .d (.int _ n)=>retI k (wrapX k n)
  | _=>.fail
def xFad (C:Known) (s:Nat→AVal) (off:Nat) (x:Opd):Eff :=
 match ev s x with
  | .ptr id o=>forceN (o+off) fun o=>.ret (.ptr id o) []
  | .cp cs o=>forceN (o+off) fun o=>.ret (.cp cs o) []
  | .ep id m i q=>.rd id fun o=>match o with
   | .row _ _ es _=>guardX (Nat.beq es.length m) (forceN (q+off) fun q=>.ret (.ep id m i q) [])
   | _=>.fail
  | .gp g o=>forceN (o+off) fun o=>.ret (.gp g o) []
  | _=>.fail
def xFld (C:Known) (s:Nat→AVal) (ag:Bool) (off:Nat) (n:Nat) (x:Opd):Eff :=
 match aggCells (ev s x) with
  | some cs=>loadE ag n off cs
  | none=>.fail
def xIxa (C:Known) (s:Nat→AVal) (sz:Nat) (x:Opd) (i:Opd):Eff :=
 match ev s i with
  | .d (.int _ n)=>match natOf n with
   | some n=>match ev s x with
    | .d (.slice sz' es)=>match es[n]?,Nat.beq sz' sz with
     | some d,true=>.ret (.cp d.cells 0) []
     | _,_=>.fail
    | .sl id m=>.rd id fun o=>match o with
     | .row _ sz' es _=>guardX (Nat.beq sz' sz&&Nat.beq es.length m&&Nat.blt n m) (.ret (.ep id m n 0) [])
     | _=>.fail
    | .bv id off m=>guardX (Nat.blt n m) (forceN (off+n * sz) fun o=>.ret (.ptr id o) [])
    | _=>.fail
   | none=>.fail
  | _=>.fail
def xIxp (C:Known) (s:Nat→AVal) (len:Nat) (sz:Nat) (x:Opd) (i:Opd):Eff :=
 match ev s i with
  | .d (.int _ n)=>match natOf n with
   | some n=>guardX (Nat.blt n len) (match ev s x with
    | .ptr id off=>forceN (off+n * sz) fun o=>.ret (.ptr id o) []
    | .cp cs off=>forceN (off+n * sz) fun o=>.ret (.cp cs o) []
    | .gp g off=>forceN (off+n * sz) fun o=>.ret (.gp g o) []
    | _=>.fail)
   | none=>.fail
  | _=>.fail
def xIxv (C:Known) (s:Nat→AVal) (ag:Bool) (len:Nat) (sz:Nat) (x:Opd) (i:Opd):Eff :=
 match ev s i with
  | .d (.int _ n)=>match natOf n with
   | some n=>guardX (Nat.blt n len) (match aggCells (ev s x) with
    | some cs=>loadE ag sz (n * sz) cs
    | none=>.fail)
   | none=>.fail
  | _=>.fail
def xIxs (C:Known) (s:Nat→AVal) (x:Opd) (i:Opd):Eff :=
 match ev s x,ev s i with
  | .d (.str l),.d (.int _ n)=>match natOf n with
   | some n=>match l[n]? with
    | some c=>retI .u8 (c.toNat:Int)
    | none=>.fail
   | none=>.fail
  | _,_=>.fail
def xBuild (C:Known) (s:Nat→AVal) (zero:List AVal) (parts:List (Nat × Nat × Opd)):Eff :=
 partsX zero (evParts s parts)
def xBsl (C:Known) (s:Nat→AVal) (r:Nat) (t:Nat) (sz:Nat) (n:Nat) (zero:List Data) (parts:List (Nat × Opd)):Eff :=
 .rd r fun o=>match o with
  | .none=>elemsX sz zero (evElems s parts) fun es ws=>guardX (Nat.beq es.length n) (.ret (.sl r n) (ws++[(r,.row t sz es false)]))
  | _=>.fail
def xMsl (C:Known) (s:Nat→AVal) (r:Nat) (t:Nat) (sz:Nat) (bytes:Nat) (zero:Data) (n:Opd):Eff :=
 match ev s n with
  | .d (.int _ k)=>match natOf k with
   | some k=>.rd r fun o=>match o with
    | .none=>guardX (Nat.ble (k * bytes) 140737488355328&&Nat.ble k 140737488355328) (forceLs (List.replicate k zero) fun es=>.ret (.sl r k) [(r,.row t sz es false)])
    | _=>.fail
   | none=>.fail
  | _=>.fail
def xMkb (C:Known) (s:Nat→AVal) (r:Nat) (t:Nat) (n:Nat) (bytes:Nat) (z:AVal) (x:Opd):Eff :=
 match ev s x with
  | .d (.int _ k)=>match natOf k with
   | some k=>.rd r fun o=>match o with
    | .none=>guardX (Nat.beq k n&&Nat.ble (n * bytes) 140737488355328&&Nat.ble n 140737488355328) (forceLs (List.replicate n z) fun cs=>.ret (.bv r 0 n) [(r,.box cs)])
    | _=>.fail
   | none=>.fail
  | _=>.fail
def xLen (C:Known) (s:Nat→AVal) (x:Opd):Eff :=
 match ev s x with
 | .bv _ _ n=>retI .i64 n
 | v=>readX v fun _ es=>retI .i64 es.length
def xLens (C:Known) (s:Nat→AVal) (x:Opd):Eff :=
 match ev s x with
  | .d (.str l)=>retI .i64 l.length
  | _=>.fail
def xApp (C:Known) (s:Nat→AVal) (r:Nat) (t:Nat) (sz:Nat) (bytes:Nat) (a:Opd) (x:Opd):Eff :=
 readX (ev s x) fun sz' ys=>guardX (Nat.beq sz' sz) (match ev s a with
  | .nils _=>.rd r fun o=>match o with
   | .none=>guardX (Nat.ble (ys.length * bytes) 140737488355328&&Nat.ble ys.length 140737488355328) (forceN ys.length fun n=>.ret (.sl r n) [(r,.row t sz ys false)])
   | _=>.fail
  | .sl id m=>.rd id fun o=>match o with
   | .row t' sz'' es fz=>guardX (Nat.beq t' t&&Nat.beq sz'' sz&&Nat.beq es.length m&&Nat.ble ((es.length+ys.length) * bytes) 140737488355328&&Nat.ble (es.length+ys.length) 140737488355328)
    (forceLs (es++ys) fun l=>forceN l.length fun n=>.ret (.sl id n) [(id,.row t sz l fz)])
   | _=>.fail
  | .bw id m=>.rd id fun o=>match o with
   | .box cs=>match allD cs with
    | some ds=>.rd r fun o=>match o with
     | .none=>guardX (Nat.beq sz 1&&Nat.beq ds.length m&&Nat.blt 0 ys.length&&Nat.ble ((ds.length+ys.length) * bytes) 140737488355328&&Nat.ble (ds.length+ys.length) 140737488355328)
      (forceLs (ds++ys) fun l=>forceN l.length fun n=>.ret (.sl r n) [(r,.row t sz l false)])
     | _=>.fail
    | none=>.fail
   | _=>.fail
  | _=>.fail)
def xMini (C:Known) (s:Nat→AVal) (x:Opd) (y:Opd):Eff :=
 match ev s x,ev s y with
  | .d (.int k a),.d (.int k' b)=>guardX (kEq k k') (retI k (min a b))
  | _,_=>.fail
def xMaxi (C:Known) (s:Nat→AVal) (x:Opd) (y:Opd):Eff :=
 match ev s x,ev s y with
  | .d (.int k a),.d (.int k' b)=>guardX (kEq k k') (retI k (max a b))
  | _,_=>.fail
def xMkf (C:Known) (s:Nat→AVal) (f:Fn) (first:List Opd) (caps:List Opd):Eff :=
 match first with
  | []=>capE (evs s caps) fun cs ws=>.ret (.d (.fn f cs)) ws
  | _=>.fail
def xMkr (C:Known) (s:Nat→AVal) (f:Fn) (first:List Opd) (caps:List Opd):Eff :=
 .ret (.fn f (evs s first) (evs s caps)) []
def xExt (C:Known) (s:Nat→AVal) (i:Nat) (x:Opd):Eff :=
 match ev s x with
  | .tup vs=>match vs[i]? with
   | some v=>.ret v []
   | none=>.fail
  | _=>.fail
def xCall (C:Known) (s:Nat→AVal) (f:FuncId) (args:List Opd):Eff :=
 pX C f (evs s args)
def xCallv (C:Known) (s:Nat→AVal) (x:Opd) (args:List Opd):Eff :=
 match ev s x with
  | .d (.fn (.func f) caps)=>pX C f (evs s args++capCells caps)
  | .fn (.func f) first caps=>innX C f (first++evs s args++caps)
  | .yld id=>yldX C id (evs s args)
  | _=>.fail
def xCalli (C:Known) (s:Nat→AVal) (f:FuncId) (args:List Opd):Eff :=
 innX C f (evs s args)
def xCallvi (C:Known) (s:Nat→AVal) (x:Opd) (args:List Opd):Eff :=
 match ev s x with
  | .d (.fn (.func f) caps)=>innX C f (evs s args++capCells caps)
  | .fn (.func f) first caps=>innX C f (first++evs s args++caps)
  | .yld id=>yldX C id (evs s args)
  | _=>.fail
def xSlcs (C:Known) (s:Nat→AVal) (x:Opd) (lo:Option Opd) (hi:Option Opd):Eff :=
 match ev s x with
  | .d (.str l)=>boundX (hi.map (ev s)) (fun h=>boundX (lo.map (ev s)) (fun i=>guardX (Nat.ble i h&&Nat.ble h l.length) (retS ((l.take h).drop i))) 0) l.length
  | _=>.fail
def xSlc (C:Known) (s:Nat→AVal) (sz:Nat) (x:Opd) (lo:Option Opd) (hi:Option Opd):Eff :=
 match ev s x with
  | .d (.slice sz' es)=>boundX (hi.map (ev s)) (fun h=>boundX (lo.map (ev s)) (fun i=>guardX (Nat.beq sz' sz&&Nat.ble i h&&Nat.ble h es.length) (forceLs ((es.take h).drop i) fun l=>.ret (.d (.slice sz' l)) [])) 0) es.length
  | .sl id m=>.rd id fun o=>match o with
   | .row t sz' es _ => boundX (hi.map (ev s)) (fun h => boundX (lo.map (ev s)) (fun i => guardX (Nat.beq sz' sz && Nat.beq es.length m && Nat.ble i h && Nat.ble h es.length)
     (forceLs ((es.take h).drop i) fun l=>.ret (.d (.slice sz' l)) [(id,.row t sz' es true)])) 0) es.length
   | _=>.fail
  | _=>.fail
def xNck (C:Known) (s:Nat→AVal) (x:Opd):Eff :=
 match ev s x with
  | .ptr id o=>.ret (.ptr id o) []
  | .cp cs o=>.ret (.cp cs o) []
  | .ep id m i q=>.rd id fun o=>match o with
   | .row _ _ es _=>guardX (Nat.beq es.length m) (.ret (.ep id m i q) [])
   | _=>.fail
  | .d (.fn f caps)=>.ret (.d (.fn f caps)) []
  | _=>.fail
def xAeq (C:Known) (s:Nat→AVal) (neg:Bool) (ks:List Nat) (x:Opd) (y:Opd):Eff :=
 match aggCells (ev s x),aggCells (ev s y) with
  | some xs,some ys=>match eqCells ks xs ys with
   | some b=>retB (cond neg (!b) b)
   | none=>.fail
  | _,_=>.fail
def xBit (C:Known) (s:Nat→AVal) (op:BinOp) (k:IntKind) (x:Opd) (y:Opd):Eff :=
 match ev s x,ev s y with
  | .d (.int k1 a),.d (.int k2 b)=>match kEq k1 k&&kEq k2 k,bitF op k a b with
   | true,some r=>retI k r
   | _,_=>.fail
  | _,_=>.fail
def xShf (C:Known) (s:Nat→AVal) (op:BinOp) (k:IntKind) (x:Opd) (y:Opd):Eff :=
 match ev s x,ev s y with
  | .d (.int k1 a),.d (.int _ b)=>match kEq k1 k,shfF op k a b with
   | true,some r=>retI k r
   | _,_=>.fail
  | _,_=>.fail
def xNeg (C:Known) (s:Nat→AVal) (k:IntKind) (x:Opd):Eff :=
 match ev s x with
  | .d (.int k1 a)=>guardX (kEq k1 k) (retI k (wrapX k (0 - a)))
  | _=>.fail
def xIsnil (C:Known) (s:Nat→AVal) (neg:Bool) (x:Opd):Eff :=
 match ev s x with
 | .nils _=>.ret (.d (.bool (!neg))) []
 | v=>readX v fun _ es=>.ret (.anyn neg es) []
def xB2s (C:Known) (s:Nat→AVal) (x:Opd):Eff :=
 readX (ev s x) fun sz es=>match Nat.beq sz 1,bytesOf es with
  | true,some b=>retS b
  | _,_=>.fail
def xCopy (C:Known) (s:Nat→AVal) (sz:Nat) (x:Opd) (y:Opd):Eff :=
 readX (ev s y) fun sz' ys=>match ev s x with
  | .sl id m=>.rd id fun o=>match o with
   | .row t sz'' es false=>guardX (Nat.beq sz' sz&&Nat.beq sz'' sz&&Nat.beq es.length m)
    (forceLs (ys.take m++es.drop ys.length) fun l=>forceN (min ys.length m) fun k=>.ret (.d (.int .i64 (.ofNat k))) [(id,.row t sz l false)])
   | _=>.fail
  | .bv id off m=>.rd id fun o=>match o with
   | .box cs=>guardX (Nat.beq sz' sz&&Nat.beq sz 1&&flatL (ys.take m)) (match cut cs off m with
    | some _=>forceLs (lay cs off (dcells (ys.take m))) fun l=>forceN (min ys.length m) fun k=>.ret (.d (.int .i64 (.ofNat k))) [(id,.box l)]
    | none=>.fail)
   | _=>.fail
  | _=>.fail
def xCbx (C:Known) (s:Nat→AVal) (r:Nat) (n:Nat) (x:Opd):Eff :=
 .rd r fun o=>match o with
  | .none=>cellsX (ev s x) fun cs=>match allD cs with
   | some ds=>forceLs ds fun ds=>.ret (.ptr r 0) [(r,.cbox ds)]
   | none=>.fail
  | _=>.fail
def xSla (C:Known) (s:Nat→AVal) (len:Nat) (x:Opd) (lo:Option Opd) (hi:Option Opd):Eff :=
 match ev s x with
  | .ptr id off=>.rd id fun o=>match o with
   | .box cs=>match lo,hi with
    | none,none=>guardX (Nat.beq off 0&&Nat.blt 0 len&&Nat.beq cs.length len) (.ret (.bw id len) [])
    | _,_=>.fail
   | .cbox ds=>boundX (hi.map (ev s)) (fun h=>boundX (lo.map (ev s)) (fun i=>guardX (Nat.ble i h&&Nat.ble h len&&Nat.ble (off+len) ds.length) (forceLs ((ds.drop (off+i)).take (h - i)) fun l=>.ret (.d (.slice 1 l)) [])) 0) len
   | _=>.fail
  | .cp ds off=>boundX (hi.map (ev s)) (fun h=>boundX (lo.map (ev s)) (fun i=>guardX (Nat.ble i h&&Nat.ble h len&&Nat.ble (off+len) ds.length) (forceLs ((ds.drop (off+i)).take (h - i)) fun l=>.ret (.d (.slice 1 l)) [])) 0) len
  | .gp g off=>match gfind g C.vars with
   | some ds=>boundX (hi.map (ev s)) (fun h=>boundX (lo.map (ev s)) (fun i=>guardX (Nat.ble i h&&Nat.ble h len&&Nat.ble (off+len) ds.length) (forceLs ((ds.drop (off+i)).take (h - i)) fun l=>.ret (.d (.slice 1 l)) [])) 0) len
   | none=>.fail
  | _=>.fail
def xS2a (C:Known) (s:Nat→AVal) (n:Nat) (x:Opd):Eff :=
 match ev s x with
  | .bv id off m=>guardX (Nat.ble n m) (.ret (.ptr id off) [])
  | v=>pvX v fun y ws=>match y with
   | .d (.slice 1 es)=>guardX (Nat.ble n es.length) (forceLs (flatC (es.take n)) fun cs=>.ret (.cp cs 0) ws)
   | _=>.fail
def xSlv (C:Known) (s:Nat→AVal) (len:Nat) (x:Opd) (lo:Option Opd) (hi:Option Opd):Eff :=
 match ev s x with
  | .ptr id off=>boundX (hi.map (ev s)) (fun h=>boundX (lo.map (ev s)) (fun i=>guardX (Nat.blt i len&&Nat.ble i h&&Nat.ble h len) (forceN (off+i) fun o=>forceN (h - i) fun n=>.ret (.bv id o n) [])) 0) len
  | _=>.fail
def xRng (C:Known) (s:Nat→AVal) (r:Nat) (x:Opd):Eff :=
 .rd r fun o=>match o with
  | .none=>match ev s x with
   | .d (.str l)=>.ret (.it r) [(r,.sit l 0)]
   | _=>.fail
  | _=>.fail
def xNxt (C:Known) (s:Nat→AVal) (x:Opd):Eff :=
 match ev s x with
  | .it id=>.rd id fun o=>match o with
   | .sit l pos=>match Nat.blt pos l.length with
    | true=>match decA l pos with
     | (c,n)=>forceN c fun c=>forceN (pos+n) fun p=>.ret (.tup [.d (.bool true),.d (.int .i64 (.ofNat pos)),.d (.int .i32 (.ofNat c))]) [(id,.sit l p)]
    | false=>.ret (.tup [.d (.bool false)]) [(id,.sit l pos)]
   | _=>.fail
  | _=>.fail
def xI2s (C:Known) (s:Nat→AVal) (x:Opd):Eff :=
 match ev s x with
  | .d (.int _ k)=>retS (Utf8.encode k).data.toList
  | _=>.fail
def xMkm (C:Known) (s:Nat→AVal) (r:Nat):Eff :=
 .rd r fun o=>match o with
  | .none=>.ret (.mp r) [(r,.mapo [])]
  | _=>.fail
def xLkp (C:Known) (s:Nat→AVal) (ck:Option IntKind) (zero:Data) (comma:Bool) (x:Opd) (k:Opd):Eff :=
 match ev s k with
  | .d kd=>match ev s x with
   | .mp id=>.rd id fun o=>match o with
    | .mapo es=>guardX (keyD ck kd&&keysOk ck es) (match comma,findM kd es with
     | true,some y=>.ret (.tup [.d y,.d (.bool true)]) []
     | true,none=>.ret (.tup [.d zero,.d (.bool false)]) []
     | false,some y=>.ret (.d y) []
     | false,none=>.ret (.d zero) [])
    | _=>.fail
   | _=>.fail
  | _=>.fail
def xMpu (C:Known) (s:Nat→AVal) (ck:Option IntKind) (x:Opd) (k:Opd) (v:Opd):Eff :=
 match ev s k with
  | .d kd=>pvX (ev s v) fun u ws=>match u with
   | .d vd=>match ev s x with
    | .mp id=>.rd id fun o=>match o with
     | .mapo es=>guardX (keyD ck kd&&keysOk ck es) (forceLs (putM kd vd es) fun l=>.ret .undef (ws++[(id,.mapo l)]))
     | _=>.fail
    | _=>.fail
   | _=>.fail
  | _=>.fail
def xLkps (C:Known) (s:Nat→AVal) (ks:List Nat) (zero:Data) (comma:Bool) (x:Opd) (k:Opd):Eff :=
 match keyV (ev s k) with
  | some kd=>match ev s x with
   | .mp id=>.rd id fun o=>match o with
    | .mapo es=>guardX (keyS ks kd&&keysOkS ks es) (match comma,findM kd es with
     | true,some y=>.ret (.tup [.d y,.d (.bool true)]) []
     | true,none=>.ret (.tup [.d zero,.d (.bool false)]) []
     | false,some y=>.ret (.d y) []
     | false,none=>.ret (.d zero) [])
    | _=>.fail
   | _=>.fail
  | none=>.fail
def xMpus (C:Known) (s:Nat→AVal) (ks:List Nat) (x:Opd) (k:Opd) (v:Opd):Eff :=
 match keyV (ev s k) with
  | some kd=>pvX (ev s v) fun u ws=>match u with
   | .d vd=>match ev s x with
    | .mp id=>.rd id fun o=>match o with
     | .mapo es=>guardX (keyS ks kd&&keysOkS ks es) (forceLs (putM kd vd es) fun l=>.ret .undef (ws++[(id,.mapo l)]))
     | _=>.fail
    | _=>.fail
   | _=>.fail
  | none=>.fail
def xLenm (C:Known) (s:Nat→AVal) (x:Opd):Eff :=
 match ev s x with
  | .mp id=>.rd id fun o=>match o with
   | .mapo es=>retI .i64 es.length
   | _=>.fail
  | _=>.fail
def effX (C:Known) (s:Nat→AVal):AOp→Eff
 | .mov x=>xMov C s x
 | .pick c a b=>xPick C s c a b
 | .alloc r cs=>xAlloc C s r cs
 | .box r n x=>xBox C s r n x
 | .ld ag n x=>xLd C s ag n x
 | .st n x v=>xSt C s n x v
 | .arith op k x y=>xArith C s op k x y
 | .cmp op x y=>xCmp C s op x y
 | .beq neg x y=>xBeq C s neg x y
 | .seq neg x y=>xSeq C s neg x y
 | .slt op x y=>xSlt C s op x y
 | .cat x y=>xCat C s x y
 | .not x=>xNot C s x
 | .conv k x=>xConv C s k x
 | .fad off x=>xFad C s off x
 | .fld ag off n x=>xFld C s ag off n x
 | .ixa sz x i=>xIxa C s sz x i
 | .ixp len sz x i=>xIxp C s len sz x i
 | .ixv ag len sz x i=>xIxv C s ag len sz x i
 | .ixs x i=>xIxs C s x i
 | .build zero parts=>xBuild C s zero parts
 | .bsl r t sz n zero parts=>xBsl C s r t sz n zero parts
 | .msl r t sz bytes zero n=>xMsl C s r t sz bytes zero n
 | .len x=>xLen C s x
 | .lens x=>xLens C s x
 | .app r t sz bytes a x=>xApp C s r t sz bytes a x
 | .mini x y=>xMini C s x y
 | .maxi x y=>xMaxi C s x y
 | .mkf f first caps=>xMkf C s f first caps
 | .mkr f first caps=>xMkr C s f first caps
 | .ext i x=>xExt C s i x
 | .call f args=>xCall C s f args
 | .callv x args=>xCallv C s x args
 | .calli f args=>xCalli C s f args
 | .calln r t sz f args=>rowX C r t sz f (evs s args)
 | .callx _ _ _=>.fail
 | .slw _ _ _ _=>.fail
 | .copyw _ _ _=>.fail
 | .slm _ _ _ _ _=>.fail
 | .lenw _=>.fail
 | .appw _ _ _=>.fail
 | .appz ..=>.fail
 | .mkb r t n bytes z x=>xMkb C s r t n bytes z x
 | .clrw _ _ _=>.fail
 | .callvi x args=>xCallvi C s x args
 | .slcs x lo hi=>xSlcs C s x lo hi
 | .slc sz x lo hi=>xSlc C s sz x lo hi
 | .nck x=>xNck C s x
 | .aeq neg ks x y=>xAeq C s neg ks x y
 | .bit op k x y=>xBit C s op k x y
 | .shf op k x y=>xShf C s op k x y
 | .neg k x=>xNeg C s k x
 | .isnil neg x=>xIsnil C s neg x
 | .b2s x=>xB2s C s x
 | .copy sz x y=>xCopy C s sz x y
 | .cbx r n x=>xCbx C s r n x
 | .sla len x lo hi=>xSla C s len x lo hi
 | .slv len x lo hi=>xSlv C s len x lo hi
 | .rng r x=>xRng C s r x
 | .nxt x=>xNxt C s x
 | .i2s x=>xI2s C s x
 | .mkm r=>xMkm C s r
 | .lkps ks zero comma x k=>xLkps C s ks zero comma x k
 | .mpus ks x k v=>xMpus C s ks x k v
 | .rngm _ _ | .nxm _ | .ent _ | .sln _ _ _ _=>.fail
 | .mk0 _ _ _ _ _ | .alt _ _ _ | .aps _ _ _ _ | .usd _ | .ust _ _ _=>.fail
 | .s2a n x=>xS2a C s n x
 | .lkp ck zero comma x k=>xLkp C s ck zero comma x k
 | .mpu ck x k v=>xMpu C s ck x k v
 | .lenm x=>xLenm C s x
def doX (C:Known) (o:AOper) (st:St):Option (St × Acc) :=
 match runEff (effX C (getL st.slots) o.op) st.heap with
 | some (v,ws,rs)=>forceLs (putL st.slots o.dst v) fun sl=>forceLs (applyW st.heap ws) fun h=>some (⟨sl,h⟩,⟨rs,wids ws⟩)
 | none=>none
def skipX (o:AOper) (st:St):Option (St × Acc) :=
 forceLs (putL st.slots o.dst .gone) fun sl=>some (⟨sl,st.heap⟩,⟨[],[]⟩)
def opX (C:Known) (o:AOper) (st:St):Option (St × Acc) :=
 match o.guard with
 | none=>doX C o st
 | some (g,want)=>match getL st.slots g with
  | .d (.bool b)=>match b,want with
   | true,true=>doX C o ⟨setL st.slots g (.d (.bool true)),st.heap⟩
   | true,false=>skipX o ⟨setL st.slots g (.d (.bool true)),st.heap⟩
   | false,true=>skipX o ⟨setL st.slots g (.d (.bool false)),st.heap⟩
   | false,false=>doX C o ⟨setL st.slots g (.d (.bool false)),st.heap⟩
  | .gone=>skipX o st
  | _=>none
def opsX (C:Known):List AOper→St→List Acc→Option (St × List Acc)
 | [],st,acc=>some (st,acc)
 | o::r,st,acc=>match opX C o st with
  | some (st',a)=>opsX C r st' (a::acc)
  | none=>none
def clearX:List Nat→St→St
 | [],st=>st
 | r::rs,st=>match noRefS r st.slots&&noRefH r st.heap with
  | true=>forceLs (st.heap.set r .none) fun h=>clearX rs ⟨st.slots,h⟩
  | false=>clearX rs st
def setX (st:St) (ks gs:List Nat):St:=forceLs (keepL ks st.slots) fun sl=>clearX gs ⟨sl,st.heap⟩
def usedH:List AObj→Nat
 | []=>0
 | o::r=>match usedH r,o with
  | 0,.none=>0
  | n,_=>n+1
def resX (s:Nat→AVal) (h:List AObj):List ARes→Option (List AVal)
 | []=>some []
 | .tmp t::r=>match resX s h r with
  | some vs=>some (s t::vs)
  | none=>none
 | .cell t n ag::r=>match s t with
  | .ptr id off=>match getH h id with
   | some (.box cs)=>match cut cs off n with
    | some l=>match ag,l with
     | true,l=>match resX s h r with
      | some vs=>some (ofCells l::vs)
      | none=>none
     | false,[v]=>match resX s h r with
      | some vs=>some (v::vs)
      | none=>none
     | _,_=>none
    | none=>none
   | _=>none
  | _=>none
def dataX (h:List AObj) (vs:List AVal):Option (List Data) :=
 match runEff (pvLX vs fun xs ws=>match allDs xs with
  | some ds=>.ret (resV ds) ws
  | none=>.fail) h with
 | some (.d d,_,_)=>some [d]
 | some (.tup vs,_,_)=>allDs vs
 | _=>none
abbrev Tab:=FuncId→Option (Nat × AFun)
abbrev Runner:=Nat→Nat→ACode→St→Option (AExit × St)
def maxN (a b:Nat):Nat :=
 match Nat.ble a b with
 | true=>b
 | false=>a
def detX (T:Tab) (lib:FuncId→List AVal→Option (List Data)) (ih:Runner) (f:FuncId) (args:List AVal):Option (List Data) :=
 match T f with
 | some (k,x)=>match Nat.ble args.length x.n with
  | true=>match ih x.n k x.body (startS x args) with
   | some (e,st)=>match e with
    | .exit _=>none
    | _=>match resX (getL st.slots) st.heap x.res with
     | some vs=>dataX st.heap vs
     | none=>none
   | none=>none
  | false=>none
 | none=>lib f args
def inX (T:Tab) (ih:Runner) (top:Nat) (f:FuncId) (args:List AVal) (h:List AObj):Option (AVal × List AObj) :=
 match T f with
 | some (m,x)=>match Nat.ble args.length x.n with
  | true=>forceN (maxN top (usedH h)) fun k=>match ih x.n (k+m) (x.body.shift k) ⟨zipSlots 0 args,h⟩ with
   | some (e,st)=>match e with
    | .exit _=>none
    | _=>match resX (getL st.slots) st.heap x.res,Nat.beq st.heap.length h.length with
     | some vs,true=>some (resA vs,st.heap)
     | _,_=>none
   | none=>none
  | false=>none
 | none=>none
def yldR (ih:Runner) (top:Nat) (id:Nat) (args:List AVal) (h:List AObj):Option (AVal × List AObj) :=
 match getH h id with
 | some (.lp .ready none m sl ps xa xb _)=>match ps.all (fun p=>Nat.blt p m)&&Nat.beq args.length ps.length&&noRfor xa&&noRfor xb with
  | true=>match ih m top (xa.only h) ⟨putMany sl ps args,h⟩ with
   | some (.normal,st)=>match getH st.heap id with
    | some (.lp .ready none m' sl' ps' xa' xb' ck')=>match ih m top (xb.only h) ⟨st.slots,st.heap.set id (.lp .busy none m' sl' ps' xa' xb' ck')⟩ with
     | some (e,st2)=>match getH st2.heap id with
      | some (.lp .busy none m3 sl3 ps3 xa3 xb3 ck3)=>match Nat.beq st2.heap.length h.length with
       | true=>match e with
        | .normal=>some (.d (.bool true),st2.heap.set id (.lp .ready none m3 sl3 ps3 xa3 xb3 ck3))
        | .ret=>some (.d (.bool false),st2.heap.set id (.lp .done (some .ret) m3 sl3 ps3 xa3 xb3 ck3))
        | .exit i=>some (.d (.bool false),st2.heap.set id (.lp .done (some (.exit i)) m3 sl3 ps3 xa3 xb3 ck3))
       | false=>none
      | _=>none
     | none=>none
    | _=>none
   | _=>none
  | false=>none
 | _=>none
def stepX (P:Program) (vs:Env) (T:Tab) (lib:FuncId→List AVal→Option (List Data)) (ih:Runner) (n top:Nat):ACode→St→Option (AExit × St)
 | .skip,st=>some (.normal,st)
 | .reg clr ops,st=>match opsX ⟨detX T lib ih,inX T ih top,yldR ih top,vs.vars,vs.row⟩ ops (clearX clr st) [] with
  | some (st',_)=>some (.normal,st')
  | none=>none
 | .regd clr ops un,st=>match opsX ⟨detX T lib ih,inX T ih top,yldR ih top,vs.vars,vs.row⟩ ops (clearX clr st) [] with
  | some (st',acc)=>match accOk un acc.reverse with
   | true=>some (.normal,st')
   | false=>none
  | none=>none
 | .seq a b,st=>match ih n top a st with
  | some (e,st')=>match e with
   | .normal=>ih n top b st'
   | e=>some (e,st')
  | none=>none
 | .cond c a b,st=>match ev (getL st.slots) c with
  | .d (.bool x)=>match x with
   | true=>ih n top a st
   | false=>ih n top b st
  | .anyn false (_::_)=>ih n top b st
  | .anyn true (_::_)=>ih n top a st
  | _=>none
 | .block id c,st=>match ih n top c st with
  | some (e,st')=>match e with
   | .exit i=>match Nat.beq i id with
    | true=>some (.normal,st')
    | false=>some (.exit i,st')
   | e=>some (e,st')
  | none=>none
 | .loop c,st=>match ih n top c st with
  | some (e,st')=>match e with
   | .normal=>ih n top (.loop c) st'
   | e=>some (e,st')
  | none=>none
 | .exit i,st=>some (.exit i,st)
 | .scope c,st=>ih n top c st
 | .ret,st=>some (.ret,st)
 | .dead,_=>none
 | .pick _ _,_=>none
 | .mvr _ _ _ _,_=>none
 | .keep ks gs c,st=>ih n top c (setX st ks gs)
 | .post ks gs c,st=>match ih n top c st with
  | some (e,st')=>match e with
   | .normal=>some (.normal,setX st' ks gs)
   | e=>some (e,st')
  | none=>none
 | .asrow r t sz s c,st=>match getL st.slots s,getH st.heap r with
  | .nils _,some .none=>ih n top c ⟨setL st.slots s (.sl r 0),st.heap.set r (.row t sz [] false)⟩
  | _,_=>ih n top c st
 | .asdat s c,st=>match getL st.slots s with
  | .sl id m=>match getH st.heap id with
   | some (.row t sz es _)=>match Nat.beq es.length m with
    | true=>ih n top c ⟨setL st.slots s (.d (.slice sz es)),st.heap.set id (.row t sz es true)⟩
    | false=>ih n top c st
   | _=>ih n top c st
  | .ptr id off=>match getH st.heap id with
   | some (.box cs)=>match cs[off]? with
    | some (.sl r m)=>match getH st.heap r with
     | some (.row t sz es _)=>match Nat.beq es.length m with
      | true=>ih n top c ⟨st.slots,(st.heap.set r (.row t sz es true)).set id (.box (cs.set off (.d (.slice sz es))))⟩
      | false=>ih n top c st
     | _=>ih n top c st
    | some (.nils sz)=>ih n top c ⟨st.slots,st.heap.set id (.box (cs.set off (.d (.slice sz []))))⟩
    | _=>match allD cs with
     | some ds=>ih n top c ⟨st.slots,st.heap.set id (.cbox ds)⟩
     | none=>ih n top c st
   | _=>ih n top c st
  | .bv id 0 m=>match getH st.heap id with
   | some (.box cs)=>match allD cs with
    | some ds=>match Nat.beq ds.length m with
     | true=>ih n top c ⟨setL st.slots s (.d (.slice 1 ds)),st.heap.set id (.cbox ds)⟩
     | false=>ih n top c st
    | none=>ih n top c st
   | _=>ih n top c st
  | _=>ih n top c st
 | .rfor r f ps xa xb,st=>match funOf (ev (getL st.slots) f),getH st.heap r with
  | some (g,first,caps),some .none=>match inX T ih top g (first++.yld r::caps) (st.heap.set r (.lp .ready none n st.slots ps xa xb (ckP P n xa xb))) with
   | some (_,h')=>match getH h' r with
    | some (.lp s pend m sl' ps' xa' xb' ck')=>match s with
     | .busy=>none
     | _=>match pend with
      | none=>some (.normal,clearX [r] ⟨st.slots,h'.set r (.lp .exhausted none m sl' ps' xa' xb' ck')⟩)
      | some .ret=>some (.ret,clearX [r] ⟨st.slots,h'.set r (.lp .exhausted (some .ret) m sl' ps' xa' xb' ck')⟩)
      | some (.exit i)=>some (.exit i,clearX [r] ⟨st.slots,h'.set r (.lp .exhausted (some (.exit i)) m sl' ps' xa' xb' ck')⟩)
    | _=>none
   | none=>none
  | _,_=>none
def mach (P:Program) (vs:Env) (T:Tab) (lib:FuncId→List AVal→Option (List Data)):Nat→Runner
 | 0=>fun _ _ _ _=>none
 | fuel+1=>fun n top x st=>stepX P vs T lib (mach P vs T lib fuel) n top x st
def callDR (P:Program) [Laid P] (row:FuncId→List AVal→Option (Nat × Nat × List Data)) (T:Tab) (lib:FuncId→List AVal→Option (List Data)) (fuel:Nat) (f:FuncId) (args:List AVal):Option (List Data) :=
 detX T lib (mach P ⟨Laid.vars P,row⟩ T lib fuel) f args
end Vc
set_option linter.unusedVariables false
set_option linter.unusedSimpArgs false
namespace Vc
open Go
theorem getH_eq:∀ (h:List AObj) (i:Nat),getH h i=h[i]?
 | [],_=>by simp [getH]
 | o::r,0=>by simp [getH]
 | o::r,i+1=>by simp [getH,getH_eq r i]
def Ok (kx k:Eff):Prop:=∀ h v ws rs,runEff kx h=some (v,ws,rs)→ERun k h v ws rs
theorem ok_fail {k:Eff}:Ok .fail k:=fun h v ws rs e=>by simp [runEff] at e
theorem ok_ret {v:AVal} {ws:List (Nat × AObj)}:Ok (.ret v ws) (.ret v ws):=fun h v' ws' rs e=>by
 simp [runEff] at e; obtain ⟨rfl,rfl,rfl⟩:=e; exact ⟨rfl,rfl,rfl⟩
theorem ok_ret' {v v':AVal} {ws ws':List (Nat × AObj)} (h1:v=v') (h2:ws=ws'):Ok (.ret v ws) (.ret v' ws'):=by subst h1 h2; exact ok_ret
theorem ok_rd {id:Nat} {kx k:AObj→Eff} (h:∀ o,Ok (kx o) (k o)):Ok (.rd id kx) (.rd id k):=fun hp v ws rs e=>by
 simp only [runEff,getH_eq] at e
 split at e
 ·rename_i o ho
  split at e
  ·rename_i v' ws' rs' he
   cases e
   exact ⟨o,rs',ho,rfl,h o hp _ _ _ he⟩
  ·cases e
 ·cases e
theorem ok_all {kx k:List AObj→Eff} (h:∀ o,Ok (kx o) (k o)):Ok (.all kx) (.all k):=fun hp v ws rs e=>by
 simp only [runEff] at e
 split at e
 ·rename_i v' ws' rs' he
  cases e
  exact ⟨rs',rfl,h hp hp _ _ _ he⟩
 ·cases e
theorem ok_side {p:Prop} {kx k:Eff} (hp:p) (h:Ok kx k):Ok kx (.side p k):=fun hh v ws rs e=>⟨hp,h hh v ws rs e⟩
theorem ok_exD {kx:Eff} {k:Data→Eff} (x:Data) (h:Ok kx (k x)):Ok kx (.exD k):=fun hh v ws rs e=>⟨x,h hh v ws rs e⟩
theorem ok_exI {kx:Eff} {k:Int→Eff} (x:Int) (h:Ok kx (k x)):Ok kx (.exI k):=fun hh v ws rs e=>⟨x,h hh v ws rs e⟩
theorem ok_exL {kx:Eff} {k:List Data→Eff} (x:List Data) (h:Ok kx (k x)):Ok kx (.exL k):=fun hh v ws rs e=>⟨x,h hh v ws rs e⟩
theorem ok_exA {kx:Eff} {k:AVal→List (Nat × AObj)→Eff} (x:AVal) (y:List (Nat × AObj)) (h:Ok kx (k x y)):Ok kx (.exA k):=fun hh v ws rs e=>⟨x,y,h hh v ws rs e⟩
theorem ok_refl:∀ (e:Eff),Ok e e
 | .ret v ws=>ok_ret
 | .rd id k=>ok_rd fun o=>ok_refl (k o)
 | .all k=>ok_all fun o=>ok_refl (k o)
 | .side p k=>fun h v ws rs e=>by simp [runEff] at e
 | .exD k=>fun h v ws rs e=>by simp [runEff] at e
 | .exI k=>fun h v ws rs e=>by simp [runEff] at e
 | .exL k=>fun h v ws rs e=>by simp [runEff] at e
 | .exA k=>fun h v ws rs e=>by simp [runEff] at e
 | .fail=>ok_fail
 | .allx ids p=>fun h v ws rs e=>by simp [runEff] at e
theorem ok_guard {b:Bool} {kx k:Eff} (h:b=true→Ok kx k):Ok (guardX b kx) k:=by
 cases b
 ·exact ok_fail
 ·exact h rfl
theorem nb {a b:Nat} (h:Nat.beq a b=true):a=b:=Nat.eq_of_beq_eq_true h
theorem nle {a b:Nat} (h:Nat.ble a b=true):a≤b:=Nat.le_of_ble_eq_true h
theorem nlt {a b:Nat} (h:Nat.blt a b=true):a < b:=by simpa [Nat.blt_eq] using h
theorem kEq_eq {a b:IntKind} (h:kEq a b=true):a=b:=by cases a <;> cases b <;> first | rfl | cases h
theorem fits_wrap {k:IntKind} {n:Int} (h:fits k n=true):k.wrap n=n:=by
 unfold fits at h
 split at h
 ·rename_i m; have:=nle h; exact IntWalk.i64_in _ (by simp only [Int.ofNat_eq_natCast]; omega)
 ·rename_i m; have:=nle h; exact IntWalk.i64_in _ (by omega)
 ·rename_i m; have:=nle h; exact IntWalk.u8_in _ (by simp only [Int.ofNat_eq_natCast]; omega)
 ·rename_i m; have:=nle h; exact IntWalk.u32_in _ (by simp only [Int.ofNat_eq_natCast]; omega)
 ·rename_i m; have:=nle h; exact IntWalk.u64_in _ (by simp only [Int.ofNat_eq_natCast]; omega)
 ·rename_i m; have:=nle h; exact IntWalk.i32_in _ (by simp only [Int.ofNat_eq_natCast]; omega)
 ·rename_i m; have:=nle h; exact IntWalk.i32_in _ (by omega)
 ·cases h
theorem wrapX_eq (k:IntKind) (n:Int):wrapX k n=k.wrap n:=by
 unfold wrapX
 split
 ·rename_i h; exact (fits_wrap h).symm
 ·rfl
theorem retI_eq (k:IntKind) (n:Int):retI k n=.ret (.d (.int k n)) []:=forceI_eq _ _
theorem retB_eq (b:Bool):retB b=.ret (.d (.bool b)) []:=forceB_eq _ _
theorem retS_eq (l:List UInt8):retS l=.ret (.d (.str l)) []:=forceLs_eq _ _
theorem arithX_eq {op:BinOp} {k:IntKind} {a b r:Int} (h:arithX op k a b=some r):arithF op k a b=some r:=by
 unfold arithX at h
 unfold arithF
 split at h <;> simp only [wrapX_eq] at h ⊢ <;> try exact h
 ·split at h
  ·cases h
  ·rename_i hb
   rw [if_neg (fun e=>hb (by rw [e]; rfl))]
   exact h
 ·split at h
  ·cases h
  ·rename_i hb
   rw [if_neg (fun e=>hb (by rw [e]; rfl))]
   exact h
mutual
theorem pvX_ok:∀ (v:AVal) {kx k:AVal→List (Nat × AObj)→Eff},(∀ x ws,Ok (kx x ws) (k x ws))→Ok (pvX v kx) (pv v k)
 | .sl id m,kx,k,h=>by
  simp only [pvX,pv]
  refine ok_rd fun o=>?_
  cases o <;> try exact ok_fail
  rename_i t sz es fz
  simp only
  split
  ·rename_i hb; exact ok_side (nb hb) (h _ _)
  ·exact ok_fail
 | .nils sz,kx,k,h=>by simp only [pvX,pv]; exact h _ _
 | .agg vs,kx,k,h=>by simp only [pvX,pv]; exact pvsX_ok vs fun ds ws=>h _ _
 | .d x,kx,k,h=>by simp only [pvX,pv]; exact h _ _
 | .cp cs o,kx,k,h=>by simp only [pvX,pv]; exact h _ _
 | .ptr _ _,_,_,_=>ok_fail
 | .ep _ _ _ _,_,_,_=>ok_fail
 | .rv _ _ _ _,_,_,_=>ok_fail
 | .mp _,_,_,_=>ok_fail
 | .it _,_,_,_=>ok_fail
 | .fn _ _ _,_,_,_=>ok_fail
 | .tup _,_,_,_=>ok_fail
 | .undef,_,_,_=>ok_fail
 | .gone,_,_,_=>ok_fail
 | .anyn _ [],_,_,_=>ok_fail
 | .anyn neg (_::_),kx,k,h=>by simp only [pvX,pv]; exact ok_side (List.cons_ne_nil _ _) (h _ _)
 | .bv _ _ _,_,_,_=>ok_fail
 | .yld _,_,_,_=>ok_fail
 | .gp _ _,_,_,_=>ok_fail
 | .nilp,_,_,_=>ok_fail
 | .mi _,_,_,_=>ok_fail
 | .dc _ _,_,_,_=>ok_fail
 | .tp _ _,_,_,_=>ok_fail
 | .bs _ _,_,_,_=>ok_fail
 | .bp _ _,_,_,_=>ok_fail
 | .bw _ _,_,_,_=>ok_fail
theorem pvsX_ok:∀ (vs:List AVal) {kx k:List Data→List (Nat × AObj)→Eff},(∀ x ws,Ok (kx x ws) (k x ws))→Ok (pvsX vs kx) (pvs vs k)
 | [],kx,k,h=>by simp only [pvsX,pvs]; exact h _ _
 | v::vs,kx,k,h=>by
  simp only [pvsX,pvs]
  refine pvX_ok v fun x ws=>?_
  cases x <;> try exact ok_fail
  exact pvsX_ok vs fun ds ws'=>h _ _
end
theorem pvLX_ok:∀ (vs:List AVal) {kx k:List AVal→List (Nat × AObj)→Eff},(∀ x ws,Ok (kx x ws) (k x ws))→Ok (pvLX vs kx) (pvL vs k)
 | [],kx,k,h=>by simp only [pvLX,pvL]; exact h _ _
 | v::vs,kx,k,h=>by
  simp only [pvLX,pvL]
  exact pvX_ok v fun x ws=>pvLX_ok vs fun xs ws'=>h _ _
theorem cellsX_ok (v:AVal) {kx k:List AVal→Eff} (h:∀ x,Ok (kx x) (k x)):Ok (cellsX v kx) (cellsE v k):=by
 unfold cellsX cellsE
 cases v <;> try exact ok_fail
 ·rename_i d; cases d <;> exact h _
 ·exact h _
 ·refine ok_rd fun o=>?_
  cases o <;> try exact ok_fail
  simp only
  split
  ·rename_i hb; exact ok_side (nb hb) (h _)
  ·exact ok_fail
 all_goals exact h _
theorem partsX_ok:∀ (ps:List (Nat × Nat × AVal)) (cells:List AVal),Ok (partsX cells ps) (partsE cells ps)
 | [],cells=>ok_ret
 | (off,n,v)::r,cells=>by
  simp only [partsX,partsE]
  refine cellsX_ok v fun cs=>?_
  cases cut cells off n with
  | none=>exact ok_fail
  | some l =>
   cases Nat.beq cs.length n with
   | false=>exact ok_fail
   | true=>simp only [forceLs_eq]; exact partsX_ok r _
theorem elemsX_ok {sz:Nat}:∀ (ps:List (Nat × AVal)) (es:List Data) {kx k:List Data→List (Nat × AObj)→Eff},(∀ x ws,Ok (kx x ws) (k x ws))→Ok (elemsX sz es ps kx) (elemsE sz es ps k)
 | [],es,kx,k,h=>by simp only [elemsX,elemsE]; exact h _ _
 | (i,v)::r,es,kx,k,h=>by
  simp only [elemsX,elemsE]
  refine pvX_ok v fun x ws=>?_
  cases x <;> try exact ok_fail
  rename_i d
  simp only
  cases Nat.beq d.cells.length sz with
  | false=>exact ok_fail
  | true=>simp only [forceLs_eq]; exact elemsX_ok r _ fun es' ws'=>h _ _
theorem readX_ok (v:AVal) {kx k:Nat→List Data→Eff} (h:∀ x y,Ok (kx x y) (k x y)):Ok (readX v kx) (readE v k):=by
 unfold readX readE
 cases v <;> try exact ok_fail
 ·rename_i d; cases d <;> first | exact h _ _ | exact ok_fail
 ·exact h _ _
 ·refine ok_rd fun o=>?_
  cases o <;> try exact ok_fail
  simp only
  split
  ·rename_i hb; exact ok_side (nb hb) (h _ _)
  ·exact ok_fail
 ·refine ok_rd fun o=>?_
  cases o <;> try exact ok_fail
  rename_i cs
  dsimp only
  cases allD cs with
  | none=>exact ok_fail
  | some ds =>
   simp only
   split
   ·rename_i hb; exact ok_side (nb hb) (h _ _)
   ·exact ok_fail
theorem boundX_ok (v:Option AVal) {kx:Nat→Eff} {k:Int→Eff} (d:Nat) (h:∀ n:Nat,Ok (kx n) (k (n:Int))):Ok (boundX v kx d) (boundE v k (d:Int)):=by
 unfold boundX boundE
 cases v with
 | none=>exact h d
 | some v =>
  cases v <;> try exact ok_fail
  rename_i dd
  cases dd <;> try exact ok_fail
  rename_i kk i
  simp only
  cases i <;> simp only [natOf]
  ·exact h _
  ·exact ok_fail
mutual
theorem eqD_eq:∀ {a b:Data},eqD a b=true→a=b
 | .int k n,b,h=>by
  cases b <;> simp only [eqD,Bool.false_eq_true] at h
  simp only [Bool.and_eq_true,beq_iff_eq] at h
  rw [kEq_eq h.1,h.2]
 | .bool x,b,h=>by
  cases b <;> simp only [eqD,Bool.false_eq_true] at h
  simp only [beq_iff_eq] at h; rw [h]
 | .str x,b,h=>by
  cases b <;> simp only [eqD,Bool.false_eq_true] at h
  simp only [beq_iff_eq] at h; rw [h]
 | .agg x,b,h=>by
  cases b <;> simp only [eqD,Bool.false_eq_true] at h
  rw [eqDs_eq h]
 | .slice z x,b,h=>by
  cases b <;> simp only [eqD,Bool.false_eq_true] at h
  simp only [Bool.and_eq_true] at h
  rw [nb h.1,eqDs_eq h.2]
 | .fn f x,b,h=>by
  cases b <;> cases f <;> try (simp only [eqD,Bool.false_eq_true] at h; done)
  rename_i g y f
  cases g <;> simp only [eqD,Bool.false_eq_true] at h
  simp only [Bool.and_eq_true] at h
  rw [nb h.1,eqDs_eq h.2]
theorem eqDs_eq:∀ {a b:List Data},eqDs a b=true→a=b
 | [],b,h=>by cases b <;> first | rfl | (simp only [eqDs,Bool.false_eq_true] at h)
 | a::r,b,h=>by
  cases b <;> simp only [eqDs,Bool.false_eq_true] at h
  simp only [Bool.and_eq_true] at h
  rw [eqD_eq h.1,eqDs_eq h.2]
end
mutual
theorem eqV_eq:∀ {a b:AVal},eqV a b=true→a=b
 | .d x,b,h=>by
  cases b <;> simp only [eqV,Bool.false_eq_true] at h
  rw [eqD_eq h]
 | .nils x,b,h=>by
  cases b <;> simp only [eqV,Bool.false_eq_true] at h
  rw [nb h]
 | .sl x n,b,h=>by
  cases b <;> simp only [eqV,Bool.false_eq_true] at h
  simp only [Bool.and_eq_true] at h
  rw [nb h.1,nb h.2]
 | .ptr x n,b,h=>by
  cases b <;> simp only [eqV,Bool.false_eq_true] at h
  simp only [Bool.and_eq_true] at h
  rw [nb h.1,nb h.2]
 | .mp x,b,h=>by
  cases b <;> simp only [eqV,Bool.false_eq_true] at h
  rw [nb h]
 | .cp x n,b,h=>by
  cases b <;> simp only [eqV,Bool.false_eq_true] at h
  simp only [Bool.and_eq_true] at h
  rw [eqDs_eq h.1,nb h.2]
 | .fn f x y,b,h=>by
  cases b <;> cases f <;> try (simp only [eqV,Bool.false_eq_true] at h; done)
  rename_i g z u f
  cases g <;> simp only [eqV,Bool.false_eq_true] at h
  simp only [Bool.and_eq_true] at h
  rw [nb h.1,eqVs_eq h.2.1,eqVs_eq h.2.2]
 | .undef,b,h=>by cases b <;> first | rfl | (simp only [eqV,Bool.false_eq_true] at h)
 | .gone,b,h=>by cases b <;> first | rfl | (simp only [eqV,Bool.false_eq_true] at h)
 | .yld x,b,h=>by
  cases b <;> simp only [eqV,Bool.false_eq_true] at h
  rw [nb h]
 | .rv _ _ _ _,b,h=>by cases b <;> simp only [eqV,Bool.false_eq_true] at h
 | .ep _ _ _ _,b,h=>by cases b <;> simp only [eqV,Bool.false_eq_true] at h
 | .it _,b,h=>by cases b <;> simp only [eqV,Bool.false_eq_true] at h
 | .agg _,b,h=>by cases b <;> simp only [eqV,Bool.false_eq_true] at h
 | .tup _,b,h=>by cases b <;> simp only [eqV,Bool.false_eq_true] at h
 | .anyn _ _,b,h=>by cases b <;> simp only [eqV,Bool.false_eq_true] at h
 | .bv _ _ _,b,h=>by cases b <;> simp only [eqV,Bool.false_eq_true] at h
 | .gp _ _,b,h=>by cases b <;> simp only [eqV,Bool.false_eq_true] at h
 | .nilp,b,h=>by cases b <;> simp only [eqV,Bool.false_eq_true] at h
 | .mi _,b,h=>by cases b <;> simp only [eqV,Bool.false_eq_true] at h
 | .dc _ _,b,h=>by cases b <;> simp only [eqV,Bool.false_eq_true] at h
 | .tp _ _,b,h=>by cases b <;> simp only [eqV,Bool.false_eq_true] at h
 | .bs _ _,b,h=>by cases b <;> simp only [eqV,Bool.false_eq_true] at h
 | .bp _ _,b,h=>by cases b <;> simp only [eqV,Bool.false_eq_true] at h
 | .bw _ _,b,h=>by cases b <;> simp only [eqV,Bool.false_eq_true] at h
theorem eqVs_eq:∀ {a b:List AVal},eqVs a b=true→a=b
 | [],b,h=>by cases b <;> first | rfl | (simp only [eqVs,Bool.false_eq_true] at h)
 | a::r,b,h=>by
  cases b <;> simp only [eqVs,Bool.false_eq_true] at h
  simp only [Bool.and_eq_true] at h
  rw [eqV_eq h.1,eqVs_eq h.2]
end
theorem eqM_eq:∀ {a b:List (Data × Data)},eqM a b=true→a=b
 | [],b,h=>by cases b <;> first | rfl | (simp only [eqM,Bool.false_eq_true] at h)
 | (x,y)::r,b,h=>by
  cases b <;> simp only [eqM,Bool.false_eq_true] at h
  simp only [Bool.and_eq_true] at h
  rw [eqD_eq h.1,eqD_eq h.2.1,eqM_eq h.2.2]
theorem eqO_eq {a b:AObj} (h:eqO a b=true):a=b:=by
 cases a <;> cases b <;> simp only [eqO,Bool.false_eq_true] at h <;> try rfl
 ·simp only [Bool.and_eq_true,beq_iff_eq] at h
  rw [nb h.1,nb h.2.1,h.2.2.1,eqDs_eq h.2.2.2]
 ·rw [eqVs_eq h]
 ·rw [eqDs_eq h]
 ·rw [eqM_eq h]
theorem diffH_eq:∀ (h h' pre:List AObj),h'.length=h.length→setAll (pre++h) (diffH pre.length h h')=pre++h'
 | [],[],pre,_=>by simp [diffH,setAll]
 | [],_::_,_,hl=>by simp at hl
 | _::_,[],_,hl=>by simp at hl
 | o::h,o'::h',pre,hl=>by
  have ih:=diffH_eq h h' (pre++[o']) (by simpa using hl)
  simp only [List.length_append,List.length_singleton,List.append_assoc,List.singleton_append] at ih
  simp only [diffH]
  split
  ·rename_i he
   rw [eqO_eq he]
   exact ih
  ·simp only [setAll]
   have e1:(pre++o::h).set pre.length o'=pre++o'::h:=by simp
   rw [e1]
   exact ih
structure Known.Good (P:Program) [Laid P] (C:Known):Prop where
 det:∀ f xs rs,C.det f xs=some rs→CallDet P f xs rs
 inn:∀ f xs h v h',C.inn f xs h=some (v,h')→CallIn P f xs h v h'
 yld:∀ id xs h v h',C.yld id xs h=some (v,h')→YieldIn P id xs h v h'
 vars:C.vars=Laid.vars P
 row:∀ f xs t sz es,C.row f xs=some (t,sz,es)→CallRow P f xs t sz es
section
variable {P : Program} [Laid P] {C : Known} (hC : C.Good P)
include hC
theorem callX_ok (f:FuncId) (args:List AVal):Ok (callX C f args) (callE P f args):=by
 unfold callX callE
 refine pvLX_ok args fun xs ws=>?_
 split
 ·rename_i rs hrs
  refine ok_exL rs (ok_side (hC.det _ _ _ hrs) ?_)
  cases ws with
  | nil=>exact ok_ret
  | cons a r =>
   simp only
   cases Data.flats rs <;> exact ok_ret
 ·exact ok_fail
theorem innX_ok (f:FuncId) (args:List AVal):Ok (innX C f args) (callIE P f args):=by
 unfold innX callIE
 refine ok_all fun h=>?_
 split
 ·rename_i v h' he
  have hc:=hC.inn _ _ _ _ _ he
  have e1:setAll h (diffH 0 h h')=h':=diffH_eq h h' [] hc.2.1
  exact ok_exA v _ (ok_side (by rw [e1]; exact hc) ok_ret)
 ·exact ok_fail
theorem rowX_ok (r t sz:Nat) (f:FuncId) (args:List AVal):Ok (rowX C r t sz f args) (callNE P r t sz f args):=by
 unfold rowX callNE
 refine pvLX_ok args fun xs ws=>ok_rd fun o=>?_
 cases o <;> try exact ok_fail
 simp only
 split
 ·rename_i t' sz' es h
  refine ok_guard fun hb=>?_
  simp only [Bool.and_eq_true] at hb
  have e1:=nb hb.1
  have e2:=nb hb.2
  subst e1 e2
  exact ok_exL es (ok_side (hC.row _ _ _ _ _ h) ok_ret)
 ·exact ok_fail
theorem pX_ok (f:FuncId) (args:List AVal):Ok (pX C f args) (callP P f args):=by
 unfold pX callP
 cases pureL args
 ·exact innX_ok hC _ _
 ·exact callX_ok hC _ _
theorem yldX_ok (id:Nat) (args:List AVal):Ok (yldX C id args) (.all fun h=>.exA fun v ws=>.side (YieldIn P id args h v (setAll h ws)) (.ret v ws)):=by
 unfold yldX
 refine ok_all fun h=>?_
 split
 ·rename_i v h' he
  have hc:=hC.yld _ _ _ _ _ he
  have e1:setAll h (diffH 0 h h')=h':=diffH_eq h h' [] hc.1
  exact ok_exA v _ (ok_side (by rw [e1]; exact hc) ok_ret)
 ·exact ok_fail
end
theorem lay_dcells {cs ys:List Data} {off:Nat} (h:off+ys.length≤cs.length):lay cs off ys=cs.take off++ys++cs.drop (off+ys.length):=lay_eq off cs ys h
section
variable {P : Program} [Laid P] {C : Known} (hC : C.Good P)
include hC
theorem effX_ok (s:Nat→AVal) (o:AOp):Ok (effX C s o) (eff P s o):=by
 cases o with
 | mov x=>exact ok_ret
 | pick c a b =>
  simp only [effX,xPick,eff]
  generalize ev s c=vc; generalize ev s a=va; generalize ev s b=vb
  cases vc <;> try exact ok_fail
  rename_i dc; cases dc <;> try exact ok_fail
  rename_i b
  dsimp only
  split
  ·simp only [retB_eq]; exact ok_ret
  ·exact ok_guard fun h=>ok_side h ok_ret
  ·exact ok_guard fun h=>ok_side (by simpa using h) ok_ret
  ·exact ok_fail
 | alloc r cs=>exact ok_refl _
 | box r n x =>
  simp only [effX,xBox,eff]
  refine ok_rd fun o=>?_
  cases o <;> try exact ok_fail
  exact cellsX_ok _ fun cs=>ok_ret
 | ld ag n x =>
  simp only [effX,xLd,eff,hC.vars]
  generalize ev s x=vx
  cases vx <;> try first | exact ok_refl _ | exact ok_fail
  rename_i id m i off
  refine ok_rd fun o=>?_
  cases o <;> try exact ok_fail
  rename_i t sz es fz
  refine ok_guard fun h=>ok_side (nb h) ?_
  cases hd:es[i]? with
  | none=>exact ok_fail
  | some d=>exact ok_exD d (ok_side rfl (ok_refl _))
 | st n x v =>
  simp only [effX,xSt,eff]
  generalize ev s x=vx; generalize ev s v=vv
  cases vx <;> try exact ok_fail
  ·rename_i id off
   refine ok_rd fun o=>?_
   cases o <;> try exact ok_fail
   rename_i cs
   refine cellsX_ok _ fun vs=>?_
   cases cut cs off n with
   | none=>exact ok_fail
   | some l =>
    cases Nat.beq vs.length n with
    | false=>exact ok_fail
    | true=>simp only [forceLs_eq]; exact ok_ret
  ·rename_i id m i off
   refine pvX_ok _ fun x ws=>?_
   cases x <;> try exact ok_fail
   rename_i y
   cases notW id ws with
   | false=>exact ok_fail
   | true =>
    simp only
    refine ok_rd fun o=>?_
    cases o <;> try exact ok_fail
    rename_i t sz es fz
    cases fz <;> try exact ok_fail
    simp only
    refine ok_guard fun h=>?_
    cases hd:es[i]? with
    | none=>exact ok_fail
    | some d =>
     simp only
     refine ok_guard fun h2=>?_
     simp only [Bool.and_eq_true] at h2
     have h3:=nb h2.1
     have h4:=nle h2.2
     cases d with
     | agg cs =>
      simp only [forceLs_eq]
      have h4:off+n≤cs.length:=h4
      refine ok_exD _ (ok_exD (.agg (lay cs off y.cells)) (ok_side ⟨nb h,rfl,h3,h4,rfl,?_⟩ ok_ret))
      show lay cs off y.cells=_
      rw [lay_dcells (by omega),h3]; rfl
     | _ =>
      simp only
      split
      ·rename_i hy
       simp only [forceLs_eq]
       refine ok_exD _ (ok_exD y (ok_side ⟨nb h,rfl,h3,h4,by simpa [Data.isAgg] using hy,?_⟩ ok_ret))
       cases y <;> simp_all [Data.cells,Data.isAgg]
      ·exact ok_fail
 | arith op k x y =>
  simp only [effX,xArith,eff]
  generalize ev s x=vx; generalize ev s y=vy
  split <;> try exact ok_fail
  rename_i k1 a k2 b
  simp only
  split
  ·rename_i r h1 h2
   simp only [Bool.and_eq_true] at h1
   simp only [retI_eq]
   exact ok_exI r (ok_side ⟨kEq_eq h1.1,kEq_eq h1.2,arithX_eq h2⟩ ok_ret)
  ·exact ok_fail
 | cmp op x y =>
  simp only [effX,xCmp,eff]
  generalize ev s x=vx; generalize ev s y=vy
  split <;> try exact ok_fail
  simp only [retB_eq]
  exact ok_guard fun h=>ok_side (kEq_eq h) ok_ret
 | beq neg x y =>
  simp only [effX,xBeq,eff]
  generalize ev s x=vx; generalize ev s y=vy
  split <;> try exact ok_fail
  simp only [retB_eq]; exact ok_ret
 | seq neg x y =>
  simp only [effX,xSeq,eff]
  generalize ev s x=vx; generalize ev s y=vy
  split <;> try exact ok_fail
  simp only [retB_eq]; exact ok_ret
 | slt op x y =>
  simp only [effX,xSlt,eff]
  generalize ev s x=vx; generalize ev s y=vy
  split <;> try exact ok_fail
  simp only [retB_eq]; exact ok_ret
 | cat x y =>
  simp only [effX,xCat,eff]
  generalize ev s x=vx; generalize ev s y=vy
  split <;> try exact ok_fail
  simp only [retS_eq]
  exact ok_guard fun h=>ok_side (nle h) ok_ret
 | not x =>
  simp only [effX,xNot,eff]
  generalize ev s x=vx
  cases vx <;> try exact ok_fail
  rename_i dx; cases dx <;> try exact ok_fail
  simp only [retB_eq]; exact ok_ret
 | conv k x =>
  simp only [effX,xConv,eff]
  generalize ev s x=vx
  cases vx <;> try exact ok_fail
  rename_i dx; cases dx <;> try exact ok_fail
  simp only [retI_eq]
  exact ok_exI _ (ok_side (wrapX_eq _ _).symm ok_ret)
 | fad off x =>
  simp only [effX,xFad,eff]
  generalize ev s x=vx
  cases vx <;> try exact ok_fail
  ·simp only [forceN_eq]; exact ok_ret
  ·refine ok_rd fun o=>?_
   cases o <;> try exact ok_fail
   simp only [forceN_eq]
   exact ok_guard fun h=>ok_side (nb h) ok_ret
  ·simp only [forceN_eq]; exact ok_ret
  ·simp only [forceN_eq]; exact ok_ret
 | fld ag off n x=>exact ok_refl _
 | ixa sz x i =>
  simp only [effX,xIxa,eff]
  generalize ev s x=vx; generalize ev s i=vi
  cases vi <;> try exact ok_fail
  rename_i di; cases di <;> try exact ok_fail
  rename_i kk n
  cases n with
  | negSucc n=>exact ok_fail
  | ofNat n =>
   simp only [natOf]
   cases vx <;> try exact ok_fail
   ·rename_i dx; cases dx <;> try exact ok_fail
    rename_i sz' es
    simp only
    cases hd:es[n]? with
    | none=>exact ok_fail
    | some d =>
     cases hb:Nat.beq sz' sz with
     | false=>exact ok_fail
     | true=>exact ok_exD d (ok_side ⟨nb hb,Int.natCast_nonneg n,by simpa using hd⟩ ok_ret)
   ·simp only
    refine ok_rd fun o=>?_
    cases o <;> try exact ok_fail
    refine ok_guard fun h=>?_
    simp only [Bool.and_eq_true] at h
    have:=nlt h.2
    exact ok_side ⟨nb h.1.1,nb h.1.2,Int.natCast_nonneg n,by simpa using this⟩ ok_ret
   ·simp only [forceN_eq]
    refine ok_guard fun h=>?_
    have:=nlt h
    exact ok_side ⟨Int.natCast_nonneg n,by simpa using this⟩ ok_ret
 | ixp len sz x i =>
  simp only [effX,xIxp,eff]
  generalize ev s x=vx; generalize ev s i=vi
  cases vi <;> try exact ok_fail
  rename_i di; cases di <;> try exact ok_fail
  rename_i kk n
  cases n with
  | negSucc n=>exact ok_fail
  | ofNat n =>
   simp only [natOf]
   refine ok_guard fun h=>?_
   have:=nlt h
   cases vx <;> try exact ok_fail
   ·simp only [forceN_eq]
    exact ok_side ⟨Int.natCast_nonneg n,by simpa using this⟩ ok_ret
   ·simp only [forceN_eq]
    exact ok_side ⟨Int.natCast_nonneg n,by simpa using this⟩ ok_ret
   ·simp only [forceN_eq]
    exact ok_side ⟨Int.natCast_nonneg n,by simpa using this⟩ ok_ret
 | ixv ag len sz x i =>
  simp only [effX,xIxv,eff]
  generalize ev s x=vx; generalize ev s i=vi
  cases vi <;> try exact ok_fail
  rename_i di; cases di <;> try exact ok_fail
  rename_i kk n
  cases n with
  | negSucc n=>exact ok_fail
  | ofNat n =>
   simp only [natOf]
   refine ok_guard fun h=>?_
   have:=nlt h
   cases aggCells vx with
   | none=>exact ok_fail
   | some cs=>exact ok_side ⟨Int.natCast_nonneg n,by simpa using this⟩ (ok_refl _)
 | ixs x i =>
  simp only [effX,xIxs,eff]
  generalize ev s x=vx; generalize ev s i=vi
  split <;> try exact ok_fail
  rename_i l kk n
  cases n with
  | negSucc n=>exact ok_fail
  | ofNat n =>
   simp only [natOf]
   cases hc:l[n]? with
   | none=>exact ok_fail
   | some c =>
    simp only [retI_eq]
    exact ok_exI _ (ok_side ⟨Int.natCast_nonneg n,by simp [hc]⟩ ok_ret)
 | build zero parts=>exact partsX_ok _ _
 | bsl r t sz n zero parts =>
  simp only [effX,xBsl,eff]
  refine ok_rd fun o=>?_
  cases o <;> try exact ok_fail
  exact elemsX_ok _ _ fun es ws=>ok_guard fun h=>ok_side (nb h) ok_ret
 | msl r t sz bytes zero n =>
  simp only [effX,xMsl,eff]
  generalize ev s n=vn
  cases vn <;> try exact ok_fail
  rename_i dn; cases dn <;> try exact ok_fail
  rename_i kk k
  cases k with
  | negSucc n =>
   simp only [natOf]; exact ok_fail
  | ofNat k =>
   simp only [natOf]
   refine ok_rd fun o=>?_
   cases o <;> try exact ok_fail
   refine ok_guard fun h=>?_
   simp only [Bool.and_eq_true] at h
   have h1:=nle h.1
   have h2:=nle h.2
   simp only [forceLs_eq]
   refine ok_side ⟨Int.natCast_nonneg k,?_,?_⟩ ok_ret
   ·simp only [Int.ofNat_eq_natCast]; omega
   ·simp only [Int.ofNat_eq_natCast]; omega
 | len x =>
  simp only [effX,xLen,eff,retI_eq]
  generalize ev s x=vx
  cases vx <;> first | exact ok_ret | exact readX_ok _ fun _ _=>ok_ret | exact ok_fail
 | mkb r t m bytes z x =>
  simp only [effX,xMkb,eff]
  generalize ev s x=vn
  cases vn <;> try exact ok_fail
  rename_i dn; cases dn <;> try exact ok_fail
  rename_i kk k
  cases k with
  | negSucc n =>
   simp only [natOf]; exact ok_fail
  | ofNat k =>
   simp only [natOf]
   refine ok_rd fun o=>?_
   cases o <;> try exact ok_fail
   refine ok_guard fun h=>?_
   simp only [Bool.and_eq_true] at h
   have h1:=nb h.1.1
   have h2:=nle h.1.2
   have h3:=nle h.2
   simp only [forceLs_eq]
   refine ok_side ⟨?_,?_,?_⟩ ok_ret
   ·simp only [Int.ofNat_eq_natCast]; omega
   ·omega
   ·omega
 | lens x =>
  simp only [effX,xLens,eff,retI_eq]
  exact ok_refl _
 | app r t sz bytes a x =>
  simp only [effX,xApp,eff]
  refine readX_ok _ fun sz' ys=>ok_guard fun h=>ok_side (nb h) ?_
  generalize ev s a=va
  cases va <;> try exact ok_fail
  ·refine ok_rd fun o=>?_
   cases o <;> try exact ok_fail
   simp only [forceN_eq]
   refine ok_guard fun h=>?_
   simp only [Bool.and_eq_true] at h
   exact ok_side ⟨nle h.1,nle h.2⟩ ok_ret
  ·refine ok_rd fun o=>?_
   cases o <;> try exact ok_fail
   simp only [forceN_eq,forceLs_eq]
   refine ok_guard fun h=>?_
   simp only [Bool.and_eq_true] at h
   have h1:=nb h.1.1.1.1
   have h2:=nb h.1.1.1.2
   have h3:=nb h.1.1.2
   have h4:=nle h.1.2
   have h5:=nle h.2
   exact ok_side ⟨h1,h2,h3,h4,h5⟩ ok_ret
  ·refine ok_rd fun o=>?_
   cases o <;> try exact ok_fail
   rename_i cs
   dsimp only
   cases allD cs with
   | none=>exact ok_fail
   | some ds =>
    refine ok_rd fun o=>?_
    cases o <;> try exact ok_fail
    simp only [forceN_eq,forceLs_eq]
    refine ok_guard fun h=>?_
    simp only [Bool.and_eq_true] at h
    have h1:=nb h.1.1.1.1
    have h2:=nb h.1.1.1.2
    have h3:=nlt h.1.1.2
    have h4:=nle h.1.2
    have h5:=nle h.2
    exact ok_side ⟨h1,h2,h3,h4,h5⟩ ok_ret
 | mini x y =>
  simp only [effX,xMini,eff]
  generalize ev s x=vx; generalize ev s y=vy
  split <;> try exact ok_fail
  simp only [retI_eq]
  exact ok_guard fun h=>ok_side (kEq_eq h) ok_ret
 | maxi x y =>
  simp only [effX,xMaxi,eff]
  generalize ev s x=vx; generalize ev s y=vy
  split <;> try exact ok_fail
  simp only [retI_eq]
  exact ok_guard fun h=>ok_side (kEq_eq h) ok_ret
 | mkf f first caps=>exact ok_refl _
 | mkr f first caps=>exact ok_ret
 | ext i x=>exact ok_refl _
 | call f args=>exact pX_ok hC _ _
 | callv x args =>
  simp only [effX,xCallv,eff]
  generalize ev s x=vx
  cases vx <;> try exact ok_fail
  ·rename_i dx; cases dx <;> try exact ok_fail
   rename_i f caps; cases f <;> try exact ok_fail
   exact pX_ok hC _ _
  ·rename_i f a b; cases f <;> try exact ok_fail
   exact innX_ok hC _ _
  ·exact yldX_ok hC _ _
 | calli f args=>exact innX_ok hC _ _
 | calln r t sz f args=>exact rowX_ok hC r t sz f _
 | callx ids f args=>exact ok_fail
 | slw sz x lo hi=>exact ok_fail
 | copyw sz x y=>exact ok_fail
 | slm sz x lo hi mx=>exact ok_fail
 | lenw x=>exact ok_fail
 | appw sz x y=>exact ok_fail
 | appz r t sz b z x y=>exact ok_fail
 | clrw sz z x=>exact ok_fail
 | callvi x args =>
  simp only [effX,xCallvi,eff]
  generalize ev s x=vx
  cases vx <;> try exact ok_fail
  ·rename_i dx; cases dx <;> try exact ok_fail
   rename_i f caps; cases f <;> try exact ok_fail
   exact innX_ok hC _ _
  ·rename_i f a b; cases f <;> try exact ok_fail
   exact innX_ok hC _ _
  ·exact yldX_ok hC _ _
 | slcs x lo hi =>
  simp only [effX,xSlcs,eff]
  generalize ev s x=vx
  cases vx <;> try exact ok_fail
  rename_i dx; cases dx <;> try exact ok_fail
  rename_i l
  refine boundX_ok _ _ fun hh=>boundX_ok _ 0 fun i=>ok_guard fun h=>?_
  simp only [Bool.and_eq_true] at h
  have h1:=nle h.1
  have h2:=nle h.2
  simp only [retS_eq]
  exact ok_side ⟨by omega,by omega,by omega⟩ (ok_ret' (by simp) rfl)
 | slc sz x lo hi =>
  simp only [effX,xSlc,eff]
  generalize ev s x=vx
  cases vx <;> try exact ok_fail
  ·rename_i dx; cases dx <;> try exact ok_fail
   refine boundX_ok _ _ fun hh=>boundX_ok _ 0 fun i=>ok_guard fun h=>?_
   simp only [Bool.and_eq_true] at h
   have h0:=nb h.1.1
   have h1:=nle h.1.2
   have h2:=nle h.2
   simp only [forceLs_eq]
   exact ok_side ⟨h0,by omega,by omega,by omega⟩ (ok_ret' (by simp) rfl)
  ·refine ok_rd fun o=>?_
   cases o <;> try exact ok_fail
   refine boundX_ok _ _ fun hh=>boundX_ok _ 0 fun i=>ok_guard fun h=>?_
   simp only [Bool.and_eq_true] at h
   have h0:=nb h.1.1.1
   have h3:=nb h.1.1.2
   have h1:=nle h.1.2
   have h2:=nle h.2
   simp only [forceLs_eq]
   exact ok_side ⟨h0,h3,by omega,by omega,by omega⟩ (ok_ret' (by simp) rfl)
 | nck x =>
  simp only [effX,xNck,eff]
  generalize ev s x=vx
  split <;> first | exact ok_fail | exact ok_ret | skip
  refine ok_rd fun o=>?_
  cases o <;> try exact ok_fail
  exact ok_guard fun h=>ok_side (nb h) ok_ret
 | aeq neg ks x y =>
  simp only [effX,xAeq,eff]
  cases aggCells (ev s x) <;> cases aggCells (ev s y) <;> try exact ok_fail
  rename_i xs ys
  simp only
  split
  ·rename_i b hb
   simp only [retB_eq]
   exact ok_exD _ (ok_side ⟨b,hb,rfl⟩ ok_ret)
  ·exact ok_fail
 | bit op k x y =>
  simp only [effX,xBit,eff]
  generalize ev s x=vx; generalize ev s y=vy
  split <;> try exact ok_fail
  simp only
  split
  ·rename_i r h1 h2
   simp only [Bool.and_eq_true] at h1
   simp only [retI_eq]
   exact ok_exI r (ok_side ⟨kEq_eq h1.1,kEq_eq h1.2,h2⟩ ok_ret)
  ·exact ok_fail
 | shf op k x y =>
  simp only [effX,xShf,eff]
  generalize ev s x=vx; generalize ev s y=vy
  split <;> try exact ok_fail
  simp only
  split
  ·rename_i r h1 h2
   simp only [retI_eq]
   exact ok_exI r (ok_side ⟨kEq_eq h1,h2⟩ ok_ret)
  ·exact ok_fail
 | neg k x =>
  simp only [effX,xNeg,eff]
  generalize ev s x=vx
  cases vx <;> try exact ok_fail
  rename_i dx; cases dx <;> try exact ok_fail
  simp only [retI_eq]
  exact ok_guard fun h=>ok_exI _ (ok_side ⟨kEq_eq h,(wrapX_eq _ _).symm⟩ ok_ret)
 | isnil neg x =>
  simp only [effX,xIsnil,eff]
  generalize ev s x=vx
  cases vx <;> first | exact ok_ret | exact readX_ok _ fun _ _=>ok_ret | exact ok_fail
 | b2s x =>
  simp only [effX,xB2s,eff]
  refine readX_ok _ fun sz es=>?_
  split
  ·rename_i b h1 h2
   simp only [retS_eq]
   exact ok_exL [.str b] (ok_side ⟨nb h1,b,h2,rfl⟩ ok_ret)
  ·exact ok_fail
 | copy sz x y =>
  simp only [effX,xCopy,eff]
  refine readX_ok _ fun sz' ys=>?_
  generalize ev s x=vx
  cases vx <;> try exact ok_fail
  ·refine ok_rd fun o=>?_
   cases o <;> try exact ok_fail
   rename_i t sz'' es fz; cases fz <;> try exact ok_fail
   simp only [forceLs_eq,forceN_eq]
   refine ok_guard fun h=>?_
   simp only [Bool.and_eq_true] at h
   exact ok_exI _ (ok_side ⟨nb h.1.1,nb h.1.2,nb h.2,rfl⟩ ok_ret)
  ·refine ok_rd fun o=>?_
   cases o <;> try exact ok_fail
   rename_i id off m cs
   simp only [forceLs_eq,forceN_eq]
   refine ok_guard fun h=>?_
   simp only [Bool.and_eq_true] at h
   refine ok_exI _ (ok_exL _ (ok_side ⟨nb h.1.1,nb h.1.2,rfl,rfl,?_⟩ ?_))
   ·have : ∀ l : List Data, flatL l = true → ∀ d ∈ l, d.isAgg = false := by
     intro l
     induction l with
     | nil=>intro _ d hd; cases hd
     | cons a l ih =>
      intro hl d hd
      simp only [flatL,Bool.and_eq_true,Bool.not_eq_true'] at hl
      rcases List.mem_cons.1 hd with e | e
      ·subst e; exact hl.1
      ·exact ih hl.2 d e
    exact this _ h.2
   ·cases cut cs off m <;> first | exact ok_fail | exact ok_ret
 | cbx r n x =>
  simp only [effX,xCbx,eff]
  refine ok_rd fun o=>?_
  cases o <;> try exact ok_fail
  refine cellsX_ok _ fun cs=>?_
  cases allD cs with
  | none=>exact ok_fail
  | some ds=>simp only [forceLs_eq]; exact ok_ret
 | sla len x lo hi =>
  simp only [effX,xSla,eff]
  generalize ev s x=vx
  cases vx <;> try exact ok_fail
  ·refine ok_rd fun o=>?_
   cases o <;> try exact ok_fail
   ·dsimp only
    cases lo <;> cases hi <;> try exact ok_fail
    refine ok_guard fun h=>?_
    simp only [Bool.and_eq_true] at h
    exact ok_side ⟨nb h.1.1,nlt h.1.2,nb h.2⟩ ok_ret
   refine boundX_ok _ _ fun hh=>boundX_ok _ 0 fun i=>ok_guard fun h=>?_
   simp only [Bool.and_eq_true] at h
   have h1:=nle h.1.1
   have h2:=nle h.1.2
   have h3:=nle h.2
   simp only [forceLs_eq]
   exact ok_side ⟨by omega,by omega,by omega,h3⟩ (ok_ret' (by simp) rfl)
  ·refine boundX_ok _ _ fun hh=>boundX_ok _ 0 fun i=>ok_guard fun h=>?_
   simp only [Bool.and_eq_true] at h
   have h1:=nle h.1.1
   have h2:=nle h.1.2
   have h3:=nle h.2
   simp only [forceLs_eq]
   exact ok_side ⟨by omega,by omega,by omega,h3⟩ (ok_ret' (by simp) rfl)
  ·rename_i g off
   simp only [hC.vars]
   cases gfind g (Laid.vars P) with
   | none=>exact ok_fail
   | some ds =>
    refine boundX_ok _ _ fun hh=>boundX_ok _ 0 fun i=>ok_guard fun h=>?_
    simp only [Bool.and_eq_true] at h
    have h1:=nle h.1.1
    have h2:=nle h.1.2
    have h3:=nle h.2
    simp only [forceLs_eq]
    exact ok_side ⟨by omega,by omega,by omega,h3⟩ (ok_ret' (by simp) rfl)
 | slv len x lo hi =>
  simp only [effX,xSlv,eff]
  generalize ev s x=vx
  cases vx <;> try exact ok_fail
  refine boundX_ok _ _ fun hh=>boundX_ok _ 0 fun i=>ok_guard fun h=>?_
  simp only [Bool.and_eq_true] at h
  have h1:=nlt h.1.1
  have h2:=nle h.1.2
  have h3:=nle h.2
  simp only [forceN_eq]
  exact ok_side ⟨by omega,by omega,by omega,by omega⟩ (ok_ret' (by simp) rfl)
 | rng r x =>
  simp only [effX,xRng,eff]
  exact ok_refl _
 | nxt x =>
  simp only [effX,xNxt,eff]
  generalize ev s x=vx
  cases vx <;> try exact ok_fail
  refine ok_rd fun o=>?_
  cases o <;> try exact ok_fail
  rename_i l pos
  simp only
  split
  ·rename_i h
   have h1:=nlt h
   generalize hd:decA l pos=cd
   obtain ⟨c,n⟩:=cd
   simp only [forceN_eq]
   refine ok_exL [.bool true,.int .i64 pos,.int .i32 c] (ok_exI ((pos+n:Nat):Int) (ok_side (.inl ⟨h1,rfl,rfl⟩) (ok_ret' rfl (by rw [Int.toNat_natCast]))))
  ·rename_i h
   have h1:l.length≤pos:=by
    rcases Nat.lt_or_ge pos l.length with h2 | h2
    ·rw [show Nat.blt pos l.length=true by simpa [Nat.blt_eq] using h2] at h; cases h
    ·exact h2
   exact ok_exL [.bool false] (ok_exI (pos:Int) (ok_side (.inr ⟨h1,rfl,rfl⟩) (ok_ret' rfl (by rw [Int.toNat_natCast]))))
 | i2s x =>
  simp only [effX,xI2s,eff]
  generalize ev s x=vx
  cases vx <;> try exact ok_fail
  rename_i dx; cases dx <;> try exact ok_fail
  simp only [retS_eq]
  exact ok_exD _ (ok_side rfl ok_ret)
 | mkm r=>exact ok_refl _
 | mk0 r t sz bytes c=>exact ok_fail
 | alt r t cs=>exact ok_fail
 | aps r t x y=>exact ok_fail
 | usd x=>exact ok_fail
 | ust t x y=>exact ok_fail
 | s2a n x =>
  simp only [effX,xS2a,eff]
  generalize ev s x=vx
  have old : ∀ vx : AVal, Ok (pvX vx fun y ws => match y with
    | .d (.slice 1 es)=>guardX (Nat.ble n es.length) (forceLs (flatC (es.take n)) fun cs=>.ret (.cp cs 0) ws)
    | _=>.fail) (pv vx fun y ws=>match y with
    | .d (.slice 1 es)=>.side (n≤es.length) (.ret (.cp (flatC (es.take n)) 0) ws)
    | _=>.fail):=by
   intro vx
   refine pvX_ok _ fun y ws=>?_
   cases y <;> try exact ok_fail
   rename_i dy; cases dy <;> try exact ok_fail
   rename_i sz es
   match sz with
   | 0=>exact ok_fail
   | 1 =>
    refine ok_guard fun h=>ok_side (by simpa [Nat.ble_eq] using h) ?_
    rw [forceLs_eq]
    exact ok_ret
   | _+2=>exact ok_fail
  cases vx <;> first | exact old _ | exact ok_guard fun h=>ok_side (nle h) ok_ret
 | lkps ks zero comma x k =>
  simp only [effX,xLkps,eff]
  generalize ev s x=vx; generalize keyV (ev s k)=vk
  cases vk <;> try exact ok_fail
  rename_i kd
  cases vx <;> try exact ok_fail
  simp only
  refine ok_rd fun o=>?_
  cases o <;> try exact ok_fail
  rename_i es
  simp only [mapE]
  refine ok_guard fun h=>?_
  simp only [Bool.and_eq_true] at h
  cases hf:findM kd es with
  | none =>
   refine ok_exL [zero,.bool false] (ok_side ⟨h.1,h.2,.inr ⟨rfl,rfl⟩⟩ ?_)
   cases comma <;> exact ok_ret
  | some y =>
   refine ok_exL [y,.bool true] (ok_side ⟨h.1,h.2,.inl ⟨y,rfl,rfl⟩⟩ ?_)
   cases comma <;> exact ok_ret
 | mpus ks x k v =>
  simp only [effX,xMpus,eff]
  generalize ev s x=vx; generalize keyV (ev s k)=vk
  cases vk <;> try exact ok_fail
  rename_i kd
  simp only
  refine pvX_ok _ fun u ws=>?_
  cases u <;> try exact ok_fail
  cases vx <;> try exact ok_fail
  simp only
  refine ok_rd fun o=>?_
  cases o <;> try exact ok_fail
  refine ok_guard fun h=>?_
  simp only [Bool.and_eq_true] at h
  simp only [forceLs_eq]
  exact ok_side ⟨h.1,h.2⟩ ok_ret
 | rngm r x=>exact ok_fail
 | nxm x=>exact ok_fail
 | ent x=>exact ok_fail
 | sln sz x hi mx=>exact ok_fail
 | lkp ck zero comma x k =>
  simp only [effX,xLkp,eff]
  generalize ev s x=vx; generalize ev s k=vk
  cases vk <;> try exact ok_fail
  rename_i kd
  cases vx <;> try exact ok_fail
  simp only
  refine ok_rd fun o=>?_
  cases o <;> try exact ok_fail
  rename_i es
  refine ok_guard fun h=>?_
  simp only [Bool.and_eq_true] at h
  cases hf:findM kd es with
  | none =>
   refine ok_exL [zero,.bool false] (ok_side ⟨h.1,h.2,.inr ⟨hf,rfl⟩⟩ ?_)
   cases comma <;> exact ok_ret
  | some y =>
   refine ok_exL [y,.bool true] (ok_side ⟨h.1,h.2,.inl ⟨y,hf,rfl⟩⟩ ?_)
   cases comma <;> exact ok_ret
 | mpu ck x k v =>
  simp only [effX,xMpu,eff]
  generalize ev s x=vx; generalize ev s k=vk
  cases vk <;> try exact ok_fail
  rename_i kd
  simp only
  refine pvX_ok _ fun u ws=>?_
  cases u <;> try exact ok_fail
  cases vx <;> try exact ok_fail
  simp only
  refine ok_rd fun o=>?_
  cases o <;> try exact ok_fail
  refine ok_guard fun h=>?_
  simp only [Bool.and_eq_true] at h
  simp only [forceLs_eq]
  exact ok_side ⟨h.1,h.2⟩ ok_ret
 | lenm x =>
  simp only [effX,xLenm,eff,retI_eq]
  exact ok_refl _
end
end Vc
set_option linter.unusedVariables false
set_option linter.unusedSimpArgs false
namespace Vc
open Go
theorem run_of_ERun {h:List AObj}:∀ {e:Eff} {v:AVal} {ws:List (Nat × AObj)} {rs:List Nat} {K:AVal→List (Nat × AObj)→List Nat→Prop},ERun e h v ws rs→K v ws rs→runE e h K
 | .ret v ws,_,_,_,K,he,hk=>by obtain ⟨rfl,rfl,rfl⟩:=he; exact hk
 | .rd id k,_,_,_,K,he,hk=>by
  obtain ⟨o,rs',ho,rfl,he⟩:=he
  simp only [runE,ho]
  exact run_of_ERun he hk
 | .side p k,_,_,_,K,he,hk=>⟨he.1,run_of_ERun he.2 hk⟩
 | .exD k,_,_,_,K,he,hk=>let ⟨x,he⟩:=he; ⟨x,run_of_ERun he hk⟩
 | .exI k,_,_,_,K,he,hk=>let ⟨x,he⟩:=he; ⟨x,run_of_ERun he hk⟩
 | .exL k,_,_,_,K,he,hk=>let ⟨x,he⟩:=he; ⟨x,run_of_ERun he hk⟩
 | .all k,_,_,_,K,he,hk=>by
  obtain ⟨rs',rfl,he⟩:=he
  exact run_of_ERun (K:=fun v ws rs=>K v ws (List.range h.length++rs)) he hk
 | .exA k,_,_,_,K,he,hk=>let ⟨x,y,he⟩:=he; ⟨x,y,run_of_ERun he hk⟩
 | .fail,_,_,_,K,he,hk=>he.elim
 | .allx ids p,_,_,_,K,he,hk=>by obtain ⟨h1,rfl⟩:=he; exact ⟨_,_,h1,hk⟩
section
variable {P : Program} [Laid P] {C : Known} (hC : C.Good P)
include hC
theorem doX_vdo {o:AOper} {st st':St} {a:Acc} {K:St→Acc→Prop} (h:doX C o st=some (st',a)) (hk:K st' a):vdo P o st K:=by
 unfold doX at h
 split at h
 ·rename_i v ws rs he
  rw [forceLs_eq,forceLs_eq] at h
  cases h
  refine run_of_ERun (effX_ok hC _ _ _ _ _ _ he) ?_
  rw [forceV_eq,forceL_eq,forceH_eq]
  exact hk
 ·cases h
omit hC in
theorem skipX_vskip {o:AOper} {st st':St} {a:Acc} {K:St→Acc→Prop} (h:skipX o st=some (st',a)) (hk:K st' a):vskip o st K:=by
 unfold skipX at h
 rw [forceLs_eq] at h
 cases h
 unfold vskip
 rw [forceL_eq]
 exact hk
theorem opX_vop {o:AOper} {st st':St} {a:Acc} {K:St→Acc→Prop} (h:opX C o st=some (st',a)) (hk:K st' a):vop P o st K:=by
 unfold opX at h
 unfold vop
 split at h
 ·rename_i hg; simp only [hg]; exact doX_vdo hC h hk
 ·rename_i g want hg
  simp only [hg]
  split at h
  ·rename_i b hb
   simp only [hb]
   split at h <;> simp only [brk,forceL_eq] <;> first | exact doX_vdo hC h hk | exact skipX_vskip h hk
  ·rename_i hb
   simp only [hb]
   exact skipX_vskip h hk
  ·cases h
theorem opsX_vops:∀ {xs:List AOper} {st st':St} {acc acc':List Acc} {K:St→List Acc→Prop},opsX C xs st acc=some (st',acc')→K st' acc'→vops P xs st acc K
 | [],st,st',acc,acc',K,h,hk=>by simp only [opsX] at h; cases h; exact hk
 | o::r,st,st',acc,acc',K,h,hk=>by
  simp only [opsX] at h
  split at h
  ·rename_i st1 a h1
   exact opX_vop hC h1 (opsX_vops h hk)
  ·cases h
end
theorem clearX_clear:∀ {rs:List Nat} {st:St} {K:St→Prop},K (clearX rs st)→clear rs st K
 | [],st,K,h=>h
 | r::rs,st,K,h=>by
  simp only [clearX] at h
  simp only [clear]
  split at h
  ·rename_i hb
   rw [forceLs_eq] at h
   simp only [hb,forceH_eq]
   exact clearX_clear h
  ·rename_i hb
   simp only [hb]
   exact clearX_clear h
theorem setX_set {ks gs:List Nat} {st:St} {K:St→Prop} (h:K (setX st ks gs)):forceL (keepL ks st.slots) fun sl=>clear gs ⟨sl,st.heap⟩ K:=by
 unfold setX at h
 rw [forceLs_eq] at h
 rw [forceL_eq]
 exact clearX_clear h
def Runs (P:Program) [Laid P] (ih:Runner):Prop:=∀ n top x st e st',ih n top x st=some (e,st')→vc P n x st fun e' s'=>e'=e∧s'=st'
theorem resX_run {s:Nat→AVal} {h:List AObj}:∀ {res:List ARes} {vs:List AVal} {k:List AVal→Eff} {Q:AVal→List (Nat × AObj)→Prop},resX s h res=some vs→runE (k vs) h (fun v ws _=>Q v ws)→runE (resE s res k) h (fun v ws _=>Q v ws)
 | [],vs,k,Q,hr,hk=>by simp only [resX] at hr; cases hr; exact hk
 | .tmp t::r,vs,k,Q,hr,hk=>by
  simp only [resX] at hr
  split at hr
  ·rename_i vs' h1
   cases hr
   simp only [resE]
   exact resX_run h1 hk
  ·cases hr
 | .cell t n ag::r,vs,k,Q,hr,hk=>by
  simp only [resX] at hr
  simp only [resE]
  split at hr
  ·rename_i id off ht
   simp only [ht]
   split at hr
   ·rename_i cs hh
    rw [getH_eq] at hh
    simp only [runE,hh]
    split at hr
    ·rename_i l hl
     simp only [hl]
     split at hr
     ·split at hr
      ·rename_i vs' h1
       cases hr
       exact resX_run h1 hk
      ·cases hr
     ·split at hr
      ·rename_i vs' h1
       cases hr
       exact resX_run h1 hk
      ·cases hr
     ·cases hr
    ·cases hr
   ·cases hr
  ·cases hr
theorem allDs_map:∀ {ds:List Data},allDs (ds.map .d)=some ds
 | []=>rfl
 | d::ds=>by simp [allDs,allDs_map (ds:=ds)]
mutual
theorem pv_k {h:List AObj}:∀ (x:AVal) {k:AVal→List (Nat × AObj)→Eff} {v:AVal} {ws:List (Nat × AObj)} {rd:List Nat},ERun (pv x k) h v ws rd→∃ y ws' rd',ERun (k y ws') h v ws rd'
 | .sl id m,k,v,ws,rd,he=>by
  simp only [pv] at he
  obtain ⟨o,rs',_,_,he⟩:=he
  cases o <;> simp only [ERun] at he <;> try exact he.elim
  exact ⟨_,_,_,he.2⟩
 | .nils sz,k,v,ws,rd,he=>⟨_,_,_,by simpa only [pv] using he⟩
 | .agg vs,k,v,ws,rd,he=>by
  simp only [pv] at he
  obtain ⟨y,ws',rd',h1⟩:=pvs_k vs he
  exact ⟨_,_,_,h1⟩
 | .d x,k,v,ws,rd,he=>⟨_,_,_,by simpa only [pv] using he⟩
 | .cp cs o,k,v,ws,rd,he=>⟨_,_,_,by simpa only [pv] using he⟩
 | .ptr _ _,_,_,_,_,he=>by simp [pv,ERun] at he
 | .ep _ _ _ _,_,_,_,_,he=>by simp [pv,ERun] at he
 | .rv _ _ _ _,_,_,_,_,he=>by simp [pv,ERun] at he
 | .mp _,_,_,_,_,he=>by simp [pv,ERun] at he
 | .it _,_,_,_,_,he=>by simp [pv,ERun] at he
 | .fn _ _ _,_,_,_,_,he=>by simp [pv,ERun] at he
 | .tup _,_,_,_,_,he=>by simp [pv,ERun] at he
 | .undef,_,_,_,_,he=>by simp [pv,ERun] at he
 | .gone,_,_,_,_,he=>by simp [pv,ERun] at he
 | .anyn neg es,k,v,ws,rd,he=>by simp only [pv] at he; exact ⟨_,_,_,he.2⟩
 | .bv _ _ _,_,_,_,_,he=>by simp [pv,ERun] at he
 | .yld _,_,_,_,_,he=>by simp [pv,ERun] at he
 | .gp _ _,_,_,_,_,he=>by simp [pv,ERun] at he
 | .nilp,_,_,_,_,he=>by simp [pv,ERun] at he
 | .tp _ _,_,_,_,_,he=>by simp [pv,ERun] at he
 | .bs _ _,_,_,_,_,he=>by simp [pv,ERun] at he
 | .bp _ _,_,_,_,_,he=>by simp [pv,ERun] at he
 | .bw _ _,_,_,_,_,he=>by simp [pv,ERun] at he
 | .mi _,_,_,_,_,he=>by simp [pv,ERun] at he
 | .dc _ _,_,_,_,_,he=>by simp [pv,ERun] at he
theorem pvs_k {h:List AObj}:∀ (xs:List AVal) {k:List Data→List (Nat × AObj)→Eff} {v:AVal} {ws:List (Nat × AObj)} {rd:List Nat},ERun (pvs xs k) h v ws rd→∃ y ws' rd',ERun (k y ws') h v ws rd'
 | [],k,v,ws,rd,he=>⟨_,_,_,by simpa only [pvs] using he⟩
 | x::xs,k,v,ws,rd,he=>by
  simp only [pvs] at he
  obtain ⟨y,ws',rd',h1⟩:=pv_k x he
  cases y <;> simp only [ERun] at h1 <;> try exact h1.elim
  obtain ⟨z,ws2,rd2,h2⟩:=pvs_k xs h1
  exact ⟨_,_,_,h2⟩
end
theorem pvL_k {h:List AObj}:∀ (xs:List AVal) {k:List AVal→List (Nat × AObj)→Eff} {v:AVal} {ws:List (Nat × AObj)} {rd:List Nat},ERun (pvL xs k) h v ws rd→∃ y ws' rd',ERun (k y ws') h v ws rd'
 | [],k,v,ws,rd,he=>⟨_,_,_,by simpa only [pvL] using he⟩
 | x::xs,k,v,ws,rd,he=>by
  simp only [pvL] at he
  obtain ⟨y,ws',rd',h1⟩:=pv_k x he
  obtain ⟨z,ws2,rd2,h2⟩:=pvL_k xs h1
  exact ⟨_,_,_,h2⟩
theorem dataX_run {h : List AObj} {vs : List AVal} {rs : List Data} (hr : dataX h vs = some rs) : runE (pvL vs fun xs ws => match allDs xs with
  | some ds=>.ret (resV ds) ws
  | none=>.fail) h fun v _ _=>v=resV rs:=by
 unfold dataX at hr
 have key:∀ {v:AVal} {ws:List (Nat × AObj)} {rd:List Nat},runEff (pvLX vs fun xs ws=>match allDs xs with
  | some ds=>.ret (resV ds) ws
  | none=>.fail) h=some (v,ws,rd)→(∃ ds,v=resV ds)∧∀ K:AVal→List (Nat × AObj)→List Nat→Prop,K v ws rd→runE (pvL vs fun xs ws=>match allDs xs with
  | some ds=>.ret (resV ds) ws
  | none=>.fail) h K:=by
  intro v ws rd he
  have h1:=pvLX_ok vs (kx:=fun xs ws=>match allDs xs with | some ds=>.ret (resV ds) ws | none=>.fail) (k:=fun xs ws=>match allDs xs with | some ds=>.ret (resV ds) ws | none=>.fail) (fun x ws=>ok_refl _) _ _ _ _ he
  refine ⟨?_,fun K hk=>run_of_ERun h1 hk⟩
  obtain ⟨xs,ws',rd',h2⟩:=pvL_k vs h1
  split at h2
  ·obtain ⟨rfl,_⟩:=h2; exact ⟨_,rfl⟩
  ·exact h2.elim
 split at hr
 ·rename_i d ws rd he
  cases hr
  exact (key he).2 _ rfl
 ·rename_i vs' ws rd he
  obtain ⟨⟨ds,h1⟩,h2⟩:=key he
  refine h2 _ ?_
  match ds,h1 with
  | [],h1=>simp [resV] at h1; subst h1; simp [allDs] at hr; subst hr; simp [resV]
  | [d],h1=>simp [resV] at h1
  | d::d'::r,h1 =>
   simp only [resV] at h1
   cases h1
   rw [allDs_map] at hr
   cases hr
   rfl
 ·cases hr
theorem freeFrom_used:∀ (h:List AObj) (k:Nat),usedH h≤k→freeFrom k h=true
 | [],k,_=>by cases k <;> rfl
 | o::r,k,hk=>by
  simp only [usedH] at hk
  cases k with
  | zero =>
   split at hk
   ·rename_i h1
    simp only [freeFrom]
    exact freeFrom_used r 0 (by omega)
   ·omega
  | succ k =>
   simp only [freeFrom]
   refine freeFrom_used r k ?_
   split at hk
   ·omega
   ·omega
theorem maxN_ge (a b:Nat):b≤maxN a b:=by
 unfold maxN
 split
 ·exact Nat.le_refl _
 ·rename_i h
  rcases Nat.le_total a b with h1 | h1
  ·rw [Nat.ble_eq_true_of_le h1] at h; cases h
  ·exact h1
section
variable {P : Program} [Laid P] {Tb : Tab} {lib : FuncId → List AVal → Option (List Data)} {ih : Runner}
 (hT:∀ f k x,Tb f=some (k,x)→chkFun P f x=true) (hL:∀ f xs rs,lib f xs=some rs→CallDet P f xs rs) (hR:Runs P ih)
include hT hL hR
theorem detX_good {f:FuncId} {xs:List AVal} {rs:List Data} (h:detX Tb lib ih f xs=some rs):CallDet P f xs rs:=by
 unfold detX at h
 split at h
 ·rename_i k x hx
  split at h
  ·rename_i hn
   split at h
   ·rename_i e st he
    refine call_of_vc (hT f k x hx) hn (vc_mono (hR _ _ _ _ _ _ he) ?_)
    rintro e' s' ⟨rfl,rfl⟩
    have fin:(match resX (getL s'.slots) s'.heap x.res with | some vs=>dataX s'.heap vs | none=>none)=some rs→endP x.res rs s':=by
     intro h
     split at h
     ·rename_i vs hv
      unfold endP retE
      exact resX_run (Q:=fun v _=>v=resV rs) hv (dataX_run h)
     ·cases h
    cases e' with
    | exit i=>cases h
    | normal=>exact fin h
    | ret=>exact fin h
   ·cases h
  ·cases h
 ·exact hL _ _ _ h
omit hL in
theorem inX_good {top:Nat} {f:FuncId} {xs:List AVal} {h h':List AObj} {v:AVal} (hh:inX Tb ih top f xs h=some (v,h')):CallIn P f xs h v h':=by
 unfold inX at hh
 split at hh
 ·rename_i m x hx
  split at hh
  ·rename_i hn
   rw [forceN_eq] at hh
   split at hh
   ·rename_i e st he
    have fin:∀ (e:AExit),(match resX (getL st.slots) st.heap x.res,Nat.beq st.heap.length h.length with | some vs,true=>some (resA vs,st.heap) | _,_=>none)=some (v,h')→h'.length=h.length∧endI x.res v h' st:=by
     intro e hh
     split at hh
     ·rename_i vs hv hb
      cases hh
      refine ⟨nb hb,?_⟩
      unfold endI
      exact resX_run (Q:=fun v' _=>v'=resA vs∧st.heap=st.heap) hv ⟨rfl,rfl⟩
     ·cases hh
    cases e with
    | exit i=>cases hh
    | normal =>
     obtain ⟨h1,h2⟩:=fin .normal hh
     refine callIn_of_vc _ (hT f m x hx) hn (freeFrom_used h _ (maxN_ge top _)) h1 (vc_mono (hR _ _ _ _ _ _ he) ?_)
     rintro e' s' ⟨rfl,rfl⟩
     exact h2
    | ret =>
     obtain ⟨h1,h2⟩:=fin .ret hh
     refine callIn_of_vc _ (hT f m x hx) hn (freeFrom_used h _ (maxN_ge top _)) h1 (vc_mono (hR _ _ _ _ _ _ he) ?_)
     rintro e' s' ⟨rfl,rfl⟩
     exact h2
   ·cases hh
  ·cases hh
 ·cases hh
omit hT hL in
theorem yldR_good {top id:Nat} {xs:List AVal} {h h':List AObj} {v:AVal} (hh:yldR ih top id xs h=some (v,h')):YieldIn P id xs h v h':=by
 unfold yldR at hh
 split at hh
 ·rename_i m sl ps xa xb ck hid
  rw [getH_eq] at hid
  split at hh
  ·rename_i hb
   simp only [Bool.and_eq_true] at hb
   split at hh
   ·rename_i st he
    split at hh
    ·rename_i m' sl' ps' xa' xb' ck' hid'
     rw [getH_eq] at hid'
     split at hh
     ·rename_i e st2 he2
      split at hh
      ·rename_i m3 sl3 ps3 xa3 xb3 ck3 hid3
       rw [getH_eq] at hid3
       split at hh
       ·rename_i hl
        have hlen:st2.heap.length=h.length:=nb hl
        have hlen':h'.length=h.length:=by
         split at hh <;> cases hh <;> simpa using hlen
        refine yieldIn_of_vc hid hb.1.1.1 hb.1.1.2 hb.1.2 hb.2 hlen' (vc_mono (hR _ _ _ _ _ _ he) ?_)
        rintro e' s' ⟨rfl,rfl⟩
        unfold roundMid
        simp only [hid']
        refine vc_mono (hR _ _ _ _ _ _ he2) ?_
        rintro e2 s2 ⟨rfl,rfl⟩
        unfold roundEnd
        simp only [hid3]
        split at hh <;> cases hh <;> exact ⟨rfl,rfl⟩
       ·cases hh
      ·cases hh
     ·cases hh
    ·cases hh
   ·cases hh
  ·cases hh
 ·cases hh
theorem known_good {row:FuncId→List AVal→Option (Nat × Nat × List Data)} (hW:∀ f xs t sz es,row f xs=some (t,sz,es)→CallRow P f xs t sz es) {top:Nat}:Known.Good P ⟨detX Tb lib ih,inX Tb ih top,yldR ih top,Laid.vars P,row⟩ where
 det:=fun f xs rs h=>detX_good hT hL hR h
 inn:=fun f xs h v h' hh=>inX_good hT hR hh
 yld:=fun id xs h v h' hh=>yldR_good hR hh
 vars:=rfl
 row:=hW
end
theorem mach_runs {P : Program} [Laid P] {row : FuncId → List AVal → Option (Nat × Nat × List Data)} (hW : ∀ f xs t sz es, row f xs = some (t, sz, es) → CallRow P f xs t sz es) {Tb : Tab} {lib : FuncId → List AVal → Option (List Data)} (hT : ∀ f k x, Tb f = some (k, x) → chkFun P f x = true) (hL : ∀ f xs rs, lib f xs = some rs → CallDet P f xs rs) :
  ∀ fuel,Runs P (mach P ⟨Laid.vars P,row⟩ Tb lib fuel):=by
 intro fuel
 induction fuel using Nat.strongRecOn with
 | _ fuel IH =>
  intro n top x st e st' h
  cases fuel with
  | zero=>simp [mach] at h
  | succ fuel =>
  have ih:=IH fuel (by omega)
  simp only [mach] at h
  have hK:=known_good hT hL ih hW (top:=top)
  cases x with
  | skip=>simp only [stepX] at h; cases h; exact ⟨rfl,rfl⟩
  | reg clr ops =>
   simp only [stepX] at h
   split at h
   ·rename_i st1 acc h1
    cases h
    simp only [vc]
    exact clearX_clear (opsX_vops hK h1 (by simp))
   ·cases h
  | regd clr ops un =>
   simp only [stepX] at h
   split at h
   ·rename_i st1 acc h1
    split at h
    ·rename_i ha
     cases h
     simp only [vc]
     refine clearX_clear (opsX_vops hK h1 ?_)
     simp [ha]
    ·cases h
   ·cases h
  | seq a b =>
   simp only [stepX] at h
   split at h
   ·rename_i e1 st1 h1
    simp only [vc]
    refine vc_mono (ih _ _ _ _ _ _ h1) ?_
    rintro e2 s2 ⟨rfl,rfl⟩
    cases e2 with
    | normal=>exact ih _ _ _ _ _ _ h
    | exit i=>cases h; exact ⟨rfl,rfl⟩
    | ret=>cases h; exact ⟨rfl,rfl⟩
   ·cases h
  | cond c a b =>
   simp only [stepX] at h
   simp only [vc]
   split at h
   ·rename_i x hx
    simp only [hx]
    cases x with
    | true=>exact ih _ _ _ _ _ _ h
    | false=>exact ih _ _ _ _ _ _ h
   ·rename_i d r hx
    simp only [hx]
    first | exact ih _ _ _ _ _ _ h | exact ⟨fun e=>by cases e,ih _ _ _ _ _ _ h⟩ | (simp; exact ih _ _ _ _ _ _ h)
   ·rename_i d r hx
    simp only [hx]
    first | exact ih _ _ _ _ _ _ h | exact ⟨fun e=>by cases e,ih _ _ _ _ _ _ h⟩ | (simp; exact ih _ _ _ _ _ _ h)
   ·cases h
  | block id c =>
   simp only [stepX] at h
   split at h
   ·rename_i e1 st1 h1
    simp only [vc]
    refine vc_mono (ih _ _ _ _ _ _ h1) ?_
    rintro e2 s2 ⟨rfl,rfl⟩
    cases e2 with
    | normal=>cases h; exact ⟨rfl,rfl⟩
    | exit i =>
     simp only at h ⊢
     cases hb:Nat.beq i id <;> simp only [hb] at h <;> cases h <;> exact ⟨rfl,rfl⟩
    | ret=>cases h; exact ⟨rfl,rfl⟩
   ·cases h
  | loop c =>
   simp only [vc]
   refine loop_J (fun m s=>m≤fuel+1∧mach P ⟨Laid.vars P,row⟩ Tb lib m n top (.loop c) s=some (e,st')) ⟨fuel+1,Nat.le_refl _,by simp only [mach]; exact h⟩ ?_
   rintro m s ⟨hle,hm⟩
   cases m with
   | zero=>simp [mach] at hm
   | succ m =>
    simp only [mach,stepX] at hm
    have ihm:=IH m (by omega)
    split at hm
    ·rename_i e1 st1 h1
     refine vc_mono (ihm _ _ _ _ _ _ h1) ?_
     rintro e2 s2 ⟨rfl,rfl⟩
     cases e2 with
     | normal=>exact ⟨m,by omega,by omega,hm⟩
     | exit i=>cases hm; exact ⟨rfl,rfl⟩
     | ret=>cases hm; exact ⟨rfl,rfl⟩
    ·cases hm
  | exit i=>simp only [stepX] at h; cases h; exact ⟨rfl,rfl⟩
  | scope c =>
   simp only [stepX] at h
   simp only [vc]
   exact ih _ _ _ _ _ _ h
  | ret=>simp only [stepX] at h; cases h; exact ⟨rfl,rfl⟩
  | dead=>simp only [stepX] at h; cases h
  | pick id c=>simp only [stepX] at h; cases h
  | mvr x y s c=>simp only [stepX] at h; cases h
  | keep ks gs c =>
   simp only [stepX] at h
   simp only [vc]
   exact setX_set (ih _ _ _ _ _ _ h)
  | post ks gs c =>
   simp only [stepX] at h
   split at h
   ·rename_i e1 st1 h1
    simp only [vc]
    refine vc_mono (ih _ _ _ _ _ _ h1) ?_
    rintro e2 s2 ⟨rfl,rfl⟩
    cases e2 with
    | normal=>cases h; exact setX_set ⟨rfl,rfl⟩
    | exit i=>cases h; exact ⟨rfl,rfl⟩
    | ret=>cases h; exact ⟨rfl,rfl⟩
   ·cases h
  | asrow r t sz s c =>
   simp only [stepX,getH_eq] at h
   simp only [vc]
   split at h
   ·rename_i k hs hh
    simp only [hs,hh,forceL_eq,forceH_eq]
    exact ih _ _ _ _ _ _ h
   ·rename_i hno
    split
    ·rename_i k hs hh
     exact (hno k hs hh).elim
    ·exact ih _ _ _ _ _ _ h
  | asdat s c =>
   simp only [stepX,getH_eq] at h
   simp only [vc]
   split at h
   ·rename_i id m hs
    simp only [hs]
    split at h
    ·rename_i t sz es fz hh
     simp only [hh]
     split at h
     ·rename_i hb
      simp only [hb,forceL_eq,forceH_eq]
      exact ih _ _ _ _ _ _ h
     ·rename_i hb
      simp only [hb]
      exact ih _ _ _ _ _ _ h
    ·rename_i hno
     split
     ·rename_i t sz es fz hh
      exact (hno t sz es fz hh).elim
     ·exact ih _ _ _ _ _ _ h
   ·rename_i id off hs
    simp only [hs]
    split at h
    ·rename_i cs hb
     simp only [hb]
     split at h
     ·rename_i r m hcs
      simp only [hcs]
      split at h
      ·rename_i t sz es fz hh
       simp only [hh]
       split at h
       ·rename_i hbq
        simp only [hbq,forceH_eq]
        exact ih _ _ _ _ _ _ h
       ·rename_i hbq
        simp only [hbq]
        exact ih _ _ _ _ _ _ h
      ·rename_i hno
       split
       ·rename_i t sz es fz hh
        exact (hno t sz es fz hh).elim
       ·exact ih _ _ _ _ _ _ h
     ·rename_i sz hcs
      simp only [hcs,forceH_eq]
      exact ih _ _ _ _ _ _ h
     ·rename_i hno hno4
      split
      ·rename_i r m hcs
       exact (hno r m hcs).elim
      ·rename_i sz hcs
       exact (hno4 sz hcs).elim
      ·split at h
       ·rename_i ds hall
        simp only [hall,forceH_eq]
        exact ih _ _ _ _ _ _ h
       ·rename_i hall
        simp only [hall]
        exact ih _ _ _ _ _ _ h
    ·rename_i hno
     split
     ·rename_i cs hb
      exact (hno cs hb).elim
     ·exact ih _ _ _ _ _ _ h
   ·rename_i id m hs
    simp only [hs]
    split at h
    ·rename_i cs hb
     simp only [hb]
     split at h
     ·rename_i ds hall
      simp only [hall]
      split at h
      ·rename_i hbq
       simp only [hbq,forceL_eq,forceH_eq]
       exact ih _ _ _ _ _ _ h
      ·rename_i hbq
       simp only [hbq]
       exact ih _ _ _ _ _ _ h
     ·rename_i hno
      simp only [hno]
      exact ih _ _ _ _ _ _ h
    ·rename_i hno
     split
     ·rename_i cs hb
      exact (hno cs hb).elim
     ·exact ih _ _ _ _ _ _ h
   ·rename_i hno hno2 hno3
    split
    ·rename_i id m hs
     exact (hno id m hs).elim
    ·rename_i id off hs
     exact (hno2 id off hs).elim
    ·rename_i id m hs
     exact (hno3 id m hs).elim
    ·exact ih _ _ _ _ _ _ h
  | rfor r f ps xa xb =>
   simp only [stepX,getH_eq] at h
   simp only [vc]
   split at h
   ·rename_i g first caps hf hr
    simp only [hf,hr]
    split at h
    ·rename_i v h' hi
     refine ⟨v,h',inX_good hT ih hi,?_⟩
     unfold rforEnd
     split at h
     ·rename_i s pend m sl' ps' xa' xb' ck' hh
      simp only [hh]
      cases s with
      | busy=>cases h
      | _ =>
       refine ⟨by simp,clearX_clear ?_⟩
       cases pend with
       | none=>cases h; exact ⟨rfl,rfl⟩
       | some j=>cases j <;> (cases h; exact ⟨rfl,rfl⟩)
     ·cases h
    ·cases h
   ·cases h
theorem callDR_good {P : Program} [Laid P] {row : FuncId → List AVal → Option (Nat × Nat × List Data)} (hW : ∀ f xs t sz es, row f xs = some (t, sz, es) → CallRow P f xs t sz es) {Tb : Tab} {lib : FuncId → List AVal → Option (List Data)} (hT : ∀ f k x, Tb f = some (k, x) → chkFun P f x = true) (hL : ∀ f xs rs, lib f xs = some rs → CallDet P f xs rs)
  {fuel:Nat} {f:FuncId} {xs:List AVal} {rs:List Data} (h:callDR P row Tb lib fuel f xs=some rs):CallDet P f xs rs :=
 detX_good hT hL (mach_runs hW hT hL fuel) h
end Vc
set_option linter.unusedVariables false
namespace Vc
open Go
abbrev TabL:=List (Nat × Nat × AFun)
def getT:TabL→Tab
 | [],_=>none
 | (f,k,x)::r,g=>match Nat.beq g f with
  | true=>some (k,x)
  | false=>getT r g
def chkT (P:Program):TabL→Bool
 | []=>true
 | (f,_,x)::r=>chkFun P f x&&chkT P r
theorem chkT_spec {P:Program}:∀ {l:TabL},chkT P l=true→∀ f k x,getT l f=some (k,x)→chkFun P f x=true
 | [],_,f,k,x,h=>by simp [getT] at h
 | (g,k',x')::r,hc,f,k,x,h=>by
  simp only [chkT,Bool.and_eq_true] at hc
  simp only [getT] at h
  split at h
  ·rename_i hb
   have:=Nat.eq_of_beq_eq_true hb
   subst this
   cases h
   exact hc.1
  ·exact chkT_spec hc.2 f k x h
def roomT (m:Nat):TabL→TabL
 | []=>[]
 | (f,k,x)::r=>(f,k,{ x with heap:=k+m })::roomT m r
theorem chkT_room {P:Program} {m:Nat}:∀ {l:TabL},chkT P l=true→chkT P (roomT m l)=true
 | [],h=>h
 | (f,k,x)::r,h=>by
  simp only [chkT,Bool.and_eq_true] at h
  simp only [roomT,chkT,Bool.and_eq_true]
  exact ⟨h.1,chkT_room h.2⟩
end Vc
