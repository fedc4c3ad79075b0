import PyProof.Rows.All
import PySem.Value
import PySem.Eval
import KE.KPar
import Wide.FinOn
import OpenK.AllK
import Wide.All
import Lean
import PySem.Challenge.RW_xm0850_02
set_option Elab.async false
set_option autoImplicit false
set_option maxRecDepth 100000
set_option linter.all false
set_option genSizeOf false
set_option genInjectivity false
section
set_option genSizeOf false
set_option genInjectivity false
namespace Ab
open PySem
inductive AV where
 | none
 | bool (b:Bool)
 | int (i:Int)
 | bytes (b:List UInt8)
 | tup (vs:List AV)
 | ref (l:Nat)
 | rng (n:Nat) (f:Nat->Nat)
 | str (s:String)
inductive AObj where
 | list (vs:List AV)
 | barr (b:List UInt8)
 | inst (c:Nat) (fs:List (Nat×AV))
 | frz (its:List Value) (vs:List AV)
noncomputable abbrev AH:=List AObj
structure St where
 fr:List (Option AV)
 H:AH
noncomputable def St.on (st:St) (k:List (Option AV)->AH->Prop):Prop:=St.casesOn st k
inductive Prim where
 | len|bytes|bytearray|tuple|sum|min|max|range|sorted|list
inductive LM where
 | append|index|extend|bappend|bextend|join
inductive AT0 where
 | loc (i p:Nat)
 | cel (i p:Nat)
 | tup (is:List (Nat×Nat)) (p:Nat)
mutual
inductive AE where
 | cst (v:AV) (p:Nat)
 | loc (i p:Nat)
 | cel (i p:Nat)
 | glb (x p:Nat)
 | bin (op:Operator) (l r:AE) (p:Nat)
 | cmp (op:CmpOp) (l r:AE) (p:Nat)
 | not (e:AE) (p:Nat)
 | bop (isAnd:Bool) (es:AEs) (p:Nat)
 | call (f:Nat) (es:AEs) (pn p:Nat)
 | new (c:Nat) (es:AEs) (pn p:Nat)
 | prim (k:Prim) (es:AEs) (pn p:Nat)
 | isb (e:AE) (pn pt p:Nat)
 | meth (o:AE) (m:Nat) (es:AEs) (pa p:Nat)
 | lmeth (o:AE) (m:LM) (es:AEs) (pa p:Nat)
 | attr (o:AE) (a p:Nat)
 | sub (o i:AE) (p:Nat)
 | slc (o lo hi:AE) (ps p:Nat)
 | abs
 | lst (es:AEs) (p:Nat)
 | tup (es:AEs) (p:Nat)
 | comp (names:List String) (sc:List (String×NameKind)) (caps:List (Nat×Nat)) (tgt:AT0) (elt it cond:AE) (p:Nat)
inductive AEs where
 | nil
 | cons (e:AE) (es:AEs)
end
inductive AFs where
 | nil
 | txt (s:String) (p:Nat) (r:AFs)
 | fmt (e:AE) (p:Nat) (r:AFs)
inductive AT where
 | t0 (t:AT0)
 | attr (o:AE) (a p:Nat)
 | sub (o i:AE) (p:Nat)
structure HRow where
 c:Nat
 v:AV
 pn:Nat
 pv:Nat
 pr:Nat
 p:Nat
mutual
inductive AS where
 | expr (e:AE) (p:Nat)
 | ret (e:AE) (p:Nat)
 | ret0 (p:Nat)
 | asg (t:AT) (e:AE) (p:Nat)
 | aug (i:Nat) (op:Operator) (e:AE) (pn p:Nat)
 | augAttr (i a:Nat) (op:Operator) (e:AE) (pn pa p:Nat)
 | ite (c:AE) (b o:ASs) (p:Nat)
 | whl (c:AE) (b:ASs) (p:Nat)
 | for (t:AT0) (it:AE) (b:ASs) (p:Nat)
 | raise (c:Nat) (s:Option String) (fs:AFs) (ps pn pc p:Nat)
 | try (b:ASs) (hs:List HRow) (p:Nat)
inductive ASs where
 | nil
 | cons (s:AS) (ss:ASs)
end
inductive Fl where
 | next
 | ret (v:AV)
structure FD where
 line:Nat
 names:List String
 np:Nat
 dflts:List AV
 body:ASs
noncomputable abbrev LIM:Nat:=1048576
noncomputable abbrev BIG:Int:=18446744073709551616
noncomputable abbrev KV:=AV->St->Prop
noncomputable abbrev KX:=Nat->St->Prop
noncomputable abbrev Call:=Nat->Nat->List AV->AH->(AV->AH->Prop)->(Nat->AH->Prop)->Prop
noncomputable def AV.isBool (a:AV) (k:Bool->Prop):Prop:=AV.casesOn a False k (fun _=>False) (fun _=>False) (fun _=>False) (fun _=>False) (fun _ _=>False) (fun _=>False)
noncomputable def AV.isInt (a:AV) (k:Int->Prop):Prop:=AV.casesOn a False (fun _=>False) k (fun _=>False) (fun _=>False) (fun _=>False) (fun _ _=>False) (fun _=>False)
noncomputable def AV.isBytes (a:AV) (k:List UInt8->Prop):Prop:=AV.casesOn a False (fun _=>False) (fun _=>False) k (fun _=>False) (fun _=>False) (fun _ _=>False) (fun _=>False)
noncomputable def AV.isTup (a:AV) (k:List AV->Prop):Prop:=AV.casesOn a False (fun _=>False) (fun _=>False) (fun _=>False) k (fun _=>False) (fun _ _=>False) (fun _=>False)
noncomputable def AV.isRef (a:AV) (k:Nat->Prop):Prop:=AV.casesOn a False (fun _=>False) (fun _=>False) (fun _=>False) (fun _=>False) k (fun _ _=>False) (fun _=>False)
noncomputable def Nt (a:AV) (k:Nat->Prop):Prop:=AV.casesOn a False (fun _=>False) (fun i=>Int.casesOn i k fun _=>False) (fun _=>False) (fun _=>False) (fun _=>False) (fun _ _=>False) (fun _=>False)
theorem Nt.mk {a:AV} {k:Nat->Prop} (n:Nat) (e:a=.int (n:Int)) (h:k n):Nt a k:=by
 subst e
 exact h
theorem Nt.elim {a:AV} {k:Nat->Prop} (h:Nt a k):∃ n:Nat,a=.int (n:Int)/\k n:=by
 cases a with
 | int i =>
  cases i with
  | ofNat n=>exact ⟨n,rfl,h⟩
  | negSucc n=>exact False.elim h
 | _=>exact False.elim h
inductive Lst (H:AH) (l:Nat) (k:List AV->Prop):Prop
 | mk (xs:List AV) (e:H[l]?=some (.list xs)) (h:k xs)
inductive Bar (H:AH) (l:Nat) (k:List UInt8->Prop):Prop
 | mk (xs:List UInt8) (e:H[l]?=some (.barr xs)) (h:k xs)
inductive Ins (H:AH) (l:Nat) (k:Nat->List (Nat×AV)->Prop):Prop
 | mk (c:Nat) (fs:List (Nat×AV)) (e:H[l]?=some (.inst c fs)) (h:k c fs)
inductive Frz (H:AH) (l:Nat) (k:List AV->Prop):Prop
 | mk (its:List Value) (xs:List AV) (e:H[l]?=some (.frz its xs)) (h:k xs)
inductive At {α:Type} (xs:List α) (n:Nat) (k:α->Prop):Prop
 | mk (x:α) (e:xs[n]?=some x) (h:k x)
noncomputable def optP {α:Type} (o:Option α) (k:α->Prop):Prop:=Option.casesOn o False k
noncomputable def oneP (vs:List AV) (k:AV->Prop):Prop:=List.casesOn vs False fun a r=>List.casesOn r (k a) fun _ _=>False
noncomputable def twoP (vs:List AV) (k:AV->AV->Prop):Prop:=List.casesOn vs False fun a r=>List.casesOn r False fun b r=>List.casesOn r (k a b) fun _ _=>False
noncomputable def ifb (b:Bool) (p q:Prop):Prop:=Bool.casesOn b q p
noncomputable def addP (a b:AV) (st:St) (Q:KV):Prop:=st.on fun fr H=>AV.casesOn a False (fun _=>False) (fun i=>b.isInt fun j=>Q (.int (i + j)) ⟨fr,H⟩)
 (fun x=>b.isBytes fun y=>x.length + y.length<=LIM/\Q (.bytes (x++y)) ⟨fr,H⟩) (fun _=>False)
 (fun l=>b.isRef fun m=>Lst H l fun xs=>Lst H m fun ys=>xs.length + ys.length<=LIM/\Q (.ref H.length) ⟨fr,H++[.list (xs++ys)]⟩) (fun _ _=>False) (fun _=>False)
noncomputable def mulP (a b:AV) (st:St) (Q:KV):Prop:=st.on fun fr H=>AV.casesOn a False (fun _=>False) (fun i=>b.isInt fun j=>(-BIG < i/\i < BIG)/\(-BIG < j/\j < BIG)/\Q (.int (i * j)) ⟨fr,H⟩)
 (fun b'=>Nt b fun n=>List.casesOn b' False fun x r=>r=[]/\n<=LIM/\Q (.bytes (List.replicate n x)) ⟨fr,H⟩) (fun _=>False)
 (fun l=>Nt b fun n=>Lst H l fun xs=>oneP xs fun x=>n<=LIM/\Q (.ref H.length) ⟨fr,H++[.list (List.replicate n x)]⟩) (fun _ _=>False) (fun _=>False)
noncomputable def shrP (a b:AV) (k:AV->Prop):Prop:=Nt a fun n=>Nt b fun m=>k (.int ((n / 2 ^ m:Nat):Int))
noncomputable def orP (a b:AV) (k:AV->Prop):Prop:=Nt a fun n=>Nt b fun m=>k (.int ((n ||| m:Nat):Int))
noncomputable def binP (op:Operator) (a b:AV) (st:St) (Q:KV):Prop:=match op with
 | .Add=>addP a b st Q
 | .Sub=>a.isInt fun i=>b.isInt fun j=>Q (.int (i - j)) st
 | .Mult=>mulP a b st Q
 | .FloorDiv=>a.isInt fun i=>b.isInt fun j=>(0 < j/\j < BIG)/\Q (.int (i / j)) st
 | .Mod=>a.isInt fun i=>b.isInt fun j=>0 < j/\Q (.int (i % j)) st
 | .BitAnd=>Nt a fun n=>Nt b fun m=>Q (.int ((n &&& m:Nat):Int)) st
 | .BitOr=>orP a b fun v=>Q v st
 | .LShift=>Nt a fun n=>Nt b fun m=>n < 18446744073709551616/\m<=128/\Q (.int ((n * 2 ^ m:Nat):Int)) st
 | .RShift=>shrP a b fun v=>Q v st
 | _=>False
noncomputable def augP (op:Operator) (a b:AV) (k:AV->Prop):Prop:=match op with
 | .Add=>a.isInt fun i=>b.isInt fun j=>k (.int (i + j))
 | .RShift=>shrP a b k
 | .BitOr=>orP a b k
 | _=>False
noncomputable def Same (H:AH):Nat->AV->AV->Prop
 | 0,_,_=>False
 | n+1,a,b=>AV.casesOn a (b=.none) (fun _=>a=b) (fun _=>a=b) (fun _=>a=b)
  (fun as=>b.isTup fun bs=>as.length=bs.length/\∀ (i:Nat) (x y:AV),as[i]?=some x->bs[i]?=some y->Same H n x y)
  (fun l=>b.isRef fun m=>Lst H l fun as=>Lst H m fun bs=>as.length=bs.length/\∀ (i:Nat) (x y:AV),as[i]?=some x->bs[i]?=some y->Same H n x y)
  (fun _ _=>False) (fun _=>a=b)
inductive Eqv (H:AH) (a b:AV) (k:Bool->Prop):Prop
 | same (e:Same H 7 a b) (h:k true)
 | tupNone (as:List AV) (e:a=.tup as) (f:b=.none) (h:k false)
 | pairs (i j x y:Int) (e:a=.tup [.int i,.int j]) (f:b=.tup [.int x,.int y]) (h:k (decide (i=x)&&decide (j=y)))
noncomputable def eqP (H:AH) (a b:AV) (k:Bool->Prop):Prop:=AV.casesOn a (Eqv H a b k) (fun x=>b.isBool fun y=>k (decide (x=y))) (fun x=>b.isInt fun y=>k (decide (x=y))) (fun x=>b.isBytes fun y=>k (decide (x=y)))
 (fun _=>Eqv H a b k) (fun _=>Eqv H a b k) (fun _ _=>False) (fun _=>Eqv H a b k)
noncomputable def isNone (a:AV) (k:Bool->Prop):Prop:=AV.casesOn a (k true) (fun _=>k false) (fun _=>k false) (fun _=>k false) (fun _=>k false) (fun _=>k false) (fun _ _=>k false) (fun _=>k false)
noncomputable def inP (a b:AV) (H:AH) (k:Bool->Prop):Prop:=b.isRef fun l=>Lst H l fun xs=>AV.casesOn a False (fun i=>∃ is:List Bool,xs=is.map .bool/\k (is.any (i==·))) (fun i=>∃ is:List Int,xs=is.map .int/\k (is.any (i==·)))
 (fun _=>False) (fun _=>False) (fun _=>False) (fun _ _=>False) (fun _=>False)
noncomputable def cmpP (op:CmpOp) (a b:AV) (H:AH) (k:Bool->Prop):Prop:=match op with
 | .Lt=>a.isInt fun i=>b.isInt fun j=>k (decide (i < j))
 | .LtE=>a.isInt fun i=>b.isInt fun j=>k (decide (i<=j))
 | .Gt=>a.isInt fun i=>b.isInt fun j=>k (decide (j < i))
 | .GtE=>a.isInt fun i=>b.isInt fun j=>k (decide (j<=i))
 | .Eq=>eqP H a b k
 | .NotEq=>eqP H a b fun r=>k (!r)
 | .Is=>b=.none/\isNone a k
 | .IsNot=>b=.none/\isNone a fun r=>k (!r)
 | .In=>inP a b H k
 | .NotIn=>inP a b H fun r=>k (!r)
noncomputable def insertI (x:Int):List Int->List Int
 | []=>[x]
 | y::r=>if x<=y then x::y::r else y::insertI x r
noncomputable def sortI:List Int->List Int
 | []=>[]
 | x::r=>insertI x (sortI r)
noncomputable def octInts (b:List UInt8):List AV:=b.map fun x=>.int (x.toNat:Int)
noncomputable def rngItems (n:Nat) (f:Nat->Nat):List AV:=(List.range n).map fun (i:Nat)=>AV.int (f i:Int)
noncomputable def cutL {α:Type} (xs:List α) (lo hi:Nat):List α:=(xs.take hi).drop lo
noncomputable def primP (p:Prim) (vs:List AV) (st:St) (Q:KV):Prop:=st.on fun fr H=>match p with
 | .len=>oneP vs fun a=>AV.casesOn a False (fun _=>False) (fun _=>False) (fun b=>Q (.int (b.length:Int)) ⟨fr,H⟩) (fun xs=>Q (.int (xs.length:Int)) ⟨fr,H⟩) (fun l=>Lst H l fun xs=>Q (.int (xs.length:Int)) ⟨fr,H⟩) (fun _ _=>False) (fun _=>False)
 | .bytes=>oneP vs fun a=>AV.casesOn a False (fun _=>False) (fun _=>False) (fun b=>Q (.bytes b) ⟨fr,H⟩) (fun _=>False) (fun l=>(Lst H l fun xs=>∃ b,xs=octInts b/\Q (.bytes b) ⟨fr,H⟩)\/Bar H l fun b=>Q (.bytes b) ⟨fr,H⟩) (fun _ _=>False) (fun _=>False)
 | .bytearray=>vs=[]/\Q (.ref H.length) ⟨fr,H++[.barr []]⟩
 | .tuple=>oneP vs fun a=>a.isRef fun l=>Lst H l fun xs=>Q (.tup xs) ⟨fr,H⟩
 | .sum=>oneP vs fun a=>a.isBytes fun b=>Q (.int (b.map fun x=>(x.toNat:Int)).sum) ⟨fr,H⟩
 | .min=>twoP vs fun a b=>a.isInt fun i=>b.isInt fun j=>Q (.int (min i j)) ⟨fr,H⟩
 | .max=>twoP vs fun a b=>a.isInt fun i=>b.isInt fun j=>Q (.int (max i j)) ⟨fr,H⟩
 | .range=>List.casesOn vs False fun a vs=>List.casesOn vs (Nt a fun n=>n<=LIM/\Q (.rng n fun i=>i) ⟨fr,H⟩) fun b vs=>List.casesOn vs (Nt a fun x=>Nt b fun y=>(x<=LIM/\y<=LIM)/\Q (.rng (y - x) fun i=>x + i) ⟨fr,H⟩)
  fun c vs=>vs=[]/\Nt a fun x=>Nt b fun y=>Nt c fun z=>(x<=LIM/\y<=LIM/\0 < z/\z<=LIM)/\Q (.rng ((y - x + (z - 1)) / z) fun i=>x + z * i) ⟨fr,H⟩
 | .sorted=>oneP vs fun a=>a.isRef fun l=>Lst H l fun xs=>∃ is:List Int,xs=is.map .int/\is.length < 64/\Q (.ref H.length) ⟨fr,H++[.list ((sortI is).map .int)]⟩
 | .list=>oneP vs fun a=>AV.casesOn a False (fun _=>False) (fun _=>False) (fun b=>Q (.ref H.length) ⟨fr,H++[.list (octInts b)]⟩) (fun _=>False) (fun _=>False) (fun n f=>Q (.ref H.length) ⟨fr,H++[.list (rngItems n f)]⟩) (fun _=>False)
noncomputable def lmK (m:LM) (a:AV) (H:AH):Prop:=match m with
 | .append|.index|.extend=>a.isRef fun l=>Lst H l fun _=>True
 | .bappend|.bextend=>a.isRef fun l=>Bar H l fun _=>True
 | .join=>a=.bytes []
noncomputable def lmP (m:LM) (a:AV) (vs:List AV) (st:St) (Q:KV):Prop:=st.on fun fr H=>match m with
 | .append=>a.isRef fun l=>oneP vs fun v=>Lst H l fun xs=>xs.length < LIM/\Q .none ⟨fr,H.set l (.list (xs++[v]))⟩
 | .index=>a.isRef fun l=>oneP vs fun v=>v.isBool fun i=>Lst H l fun xs=>∃ (is:List Bool) (k:Nat),xs=is.map .bool/\is[k]?=some i/\(∀ j,j < k->is[j]?≠some i)/\Q (.int (k:Int)) ⟨fr,H⟩
 | .extend=>a.isRef fun l=>oneP vs fun v=>v.isRef fun m=>Lst H l fun xs=>Lst H m fun ys=>(m≠l/\xs.length + ys.length<=LIM)/\Q .none ⟨fr,H.set l (.list (xs++ys))⟩
 | .bappend=>a.isRef fun l=>oneP vs fun v=>Nt v fun n=>Bar H l fun b=>(n < 256/\b.length < LIM)/\Q .none ⟨fr,H.set l (.barr (b++[UInt8.ofNat n]))⟩
 | .bextend=>a.isRef fun l=>oneP vs fun v=>v.isBytes fun c=>Bar H l fun b=>b.length + c.length<=LIM/\Q .none ⟨fr,H.set l (.barr (b++c))⟩
 | .join=>a=.bytes []/\oneP vs fun v=>v.isRef fun l=>Lst H l fun xs=>∃ bs:List (List UInt8),xs=bs.map .bytes/\bs.flatten.length<=LIM/\Q (.bytes bs.flatten) ⟨fr,H⟩
noncomputable def subP (o i:AV) (H:AH) (k:AV->Prop):Prop:=Nt i fun n=>AV.casesOn o False (fun _=>False) (fun _=>False) (fun b=>At b n fun x=>k (.int (x.toNat:Int))) (fun vs=>At vs n k) (fun l=>Lst H l fun xs=>At xs n k) (fun _ _=>False) (fun _=>False)
noncomputable def bndP (a:AV) (d:Nat) (k:Nat->Prop):Prop:=AV.casesOn a (k d) (fun _=>False) (fun _=>Nt a fun n=>n < 1152921504606846976/\k n) (fun _=>False) (fun _=>False) (fun _=>False) (fun _ _=>False) (fun _=>False)
noncomputable def slcP (o lo hi:AV) (st:St) (Q:KV):Prop:=st.on fun fr H=>AV.casesOn o False (fun _=>False) (fun _=>False)
 (fun b=>bndP lo 0 fun x=>bndP hi b.length fun y=>Q (.bytes (cutL b x y)) ⟨fr,H⟩) (fun _=>False)
 (fun l=>(Lst H l fun xs=>bndP lo 0 fun x=>bndP hi xs.length fun y=>Q (.ref H.length) ⟨fr,H++[.list (cutL xs x y)]⟩) ∨
  Frz H l fun xs=>bndP lo 0 fun x=>bndP hi xs.length fun y=>Q (.ref H.length) ⟨fr,H++[.list (cutL xs x y)]⟩) (fun _ _=>False) (fun _=>False)
noncomputable def getFr:Nat->List (Option AV)->(AV->Prop)->Prop
 | 0,fr,k=>List.casesOn fr False fun o _=>optP o k
 | i+1,fr,k=>List.casesOn fr False fun _ r=>getFr i r k
noncomputable def setFr (v:AV):Nat->List (Option AV)->(List (Option AV)->Prop)->Prop
 | 0,fr,k=>List.casesOn fr False fun _ r=>k (some v::r)
 | i+1,fr,k=>List.casesOn fr False fun o r=>setFr v i r fun r=>k (o::r)
noncomputable def setFrs:List Nat->List AV->List (Option AV)->(List (Option AV)->Prop)->Prop
 | [],vs,fr,k=>vs=[]/\k fr
 | i::is,vs,fr,k=>List.casesOn vs False fun v vs=>setFr v i fr fun fr=>setFrs is vs fr k
noncomputable def setT (t:AT0) (v:AV) (fr:List (Option AV)) (k:List (Option AV)->Prop):Prop:=match t with
 | .loc i _=>setFr v i fr k
 | .cel i _=>setFr v i fr k
 | .tup is _=>v.isTup fun vs=>setFrs (is.map (·.1)) vs fr k
noncomputable def fget (a:Nat):List (Nat×AV)->Option AV
 | []=>none
 | p::r=>if p.1=a then some p.2 else fget a r
noncomputable def fset (a:Nat) (v:AV):List (Nat×AV)->List (Nat×AV)
 | []=>[(a,v)]
 | p::r=>if p.1=a then (p.1,v)::r else p::fset a v r
noncomputable def capture (caps:List (Nat×Nat)) (outer:List (Option AV)) (n:Nat):List (Option AV) :=
 caps.foldl (fun fr c=>fr.set c.1 (outer[c.2]?.join)) (List.replicate n none)
noncomputable def iterP (v:AV) (H:AH) (k:List AV->Option Nat->Prop):Prop:=AV.casesOn v False (fun _=>False) (fun _=>False) (fun b=>k (octInts b) none) (fun vs=>k vs none) (fun l=>Lst H l fun xs=>k xs (some l)) (fun n f=>k (rngItems n f) none) (fun _=>False)
noncomputable def stands (w:Option Nat) (all:List AV) (H:AH):Prop:=Option.casesOn w True fun l=>H[l]?=some (.list all)
noncomputable def fmtP (v:AV) (H:AH):Prop:=AV.casesOn v False (fun _=>False) (fun i=>-(2 ^ 512:Int) < i/\i < 2 ^ 512) (fun _=>False) (fun _=>False)
 (fun l=>Lst H l fun xs=>∃ is:List Int,xs=is.map .int/\is.length<=1000/\∀ i∈is,-(2 ^ 30:Int) < i/\i < 2 ^ 30) (fun _ _=>False) (fun _=>False)
noncomputable def callK (C:Call) (c f:Nat) (vs:List AV) (st:St) (Q:KV) (E:KX):Prop:=st.on fun fr H=>C c f vs H (fun v H=>Q v ⟨fr,H⟩) (fun e H=>E e ⟨fr,H⟩)
noncomputable def onNext (k:St->Prop) (Q:Fl->St->Prop) (f:Fl) (st:St):Prop:=Fl.casesOn f (k st) fun v=>Q (.ret v) st
noncomputable def isAbs (e:AE):Bool:=match e with
 | .abs=>true
 | _=>false
noncomputable def compK (e:AE) (c:AV) (p q:Prop):Prop:=Bool.casesOn (isAbs e) (c.isBool fun b=>ifb b p q) p
structure Tab where
 glb:Nat->Option Int
 fn:Nat->Nat->Option FD
 cls:Nat->Bool
 field:Nat->Nat->Bool
 isExc:Nat->Bool
 sub:Nat->Nat->Bool
inductive ForI (all:List AV) (w:Option Nat) (body:AV->St->(St->Prop)->Prop) (st:St) (k:St->Prop):Prop
 | mk (I:Nat->St->Prop) (h0:I 0 st) (step:∀ n v st,all[n]?=some v->I n st->stands w all st.H/\body v st (I (n+1))) (fin:∀ st,I all.length st->stands w all st.H/\k st)
inductive WhlI (body:St->(St->Prop)->Prop) (st:St):Prop
 | mk (I:Nat->St->Prop) (n:Nat) (h0:I n st) (step:∀ n st,I n st->body st fun st=>∃ m,m < n/\I m st)
section
variable (T:Tab) (C:Call)
mutual
noncomputable def vE:AE->St->KV->KX->Prop
 | .cst v _,st,Q,_=>Q v st
 | .loc i _,st,Q,_=>getFr i st.fr fun v=>Q v st
 | .cel i _,st,Q,_=>getFr i st.fr fun v=>Q v st
 | .glb x _,st,Q,_=>optP (T.glb x) fun i=>Q (.int i) st
 | .bin op l r _,st,Q,E=>vE l st (fun a st=>vE r st (fun b st=>binP op a b st Q) E) E
 | .cmp op l r _,st,Q,E=>vE l st (fun a st=>vE r st (fun b st=>st.on fun fr H=>cmpP op a b H fun r=>Q (.bool r) ⟨fr,H⟩) E) E
 | .not e _,st,Q,E=>vE e st (fun a st=>a.isBool fun b=>Q (.bool (!b)) st) E
 | .bop k es _,st,Q,E=>vB k es st Q E
 | .call f es _ _,st,Q,E=>(T.fn 0 f).isSome=true/\vEs es st (fun vs st=>callK C 0 f vs st Q E) E
 | .new c es _ _,st,Q,E=>T.cls c=true/\vEs es st (fun vs st=>st.on fun fr H0=>C c 1 (.ref H0.length::vs) (H0++[.inst c []]) (fun v H=>v=.none/\Q (.ref H0.length) ⟨fr,H⟩) (fun e H=>E e ⟨fr,H⟩)) E
 | .prim p es _ _,st,Q,E=>vEs es st (fun vs st=>primP p vs st Q) E
 | .isb e _ _ _,st,Q,E=>vE e st (fun a st=>a.isBytes fun _=>Q (.bool true) st) E
 | .meth o m es _ _,st,Q,E=>vE o st (fun a st=>a.isRef fun l=>st.on fun fr H=>Ins H l fun c fs=>(T.fn c m).isSome=true/\c≠0/\fget m fs=none/\vEs es ⟨fr,H⟩ (fun vs st=>callK C c m (.ref l::vs) st Q E) E) E
 | .lmeth o m es _ _,st,Q,E=>vE o st (fun a st=>st.on fun fr H=>lmK m a H/\vEs es ⟨fr,H⟩ (fun vs st=>lmP m a vs st Q) E) E
 | .attr o a _,st,Q,E=>vE o st (fun v st=>v.isRef fun l=>st.on fun fr H=>Ins H l fun c fs=>T.field c a=true/\optP (fget a fs) fun r=>Q r ⟨fr,H⟩) E
 | .sub o i _,st,Q,E=>vE o st (fun a st=>vE i st (fun b st=>st.on fun fr H=>subP a b H fun r=>Q r ⟨fr,H⟩) E) E
 | .slc o lo hi _ _,st,Q,E=>vE o st (fun a st=>vE lo st (fun x st=>vE hi st (fun y st=>slcP a x y st Q) E) E) E
 | .abs,st,Q,_=>Q .none st
 | .lst es _,st,Q,E=>vEs es st (fun vs st=>st.on fun fr H=>Q (.ref H.length) ⟨fr,H++[.list vs]⟩) E
 | .tup es _,st,Q,E=>vEs es st (fun vs st=>Q (.tup vs) st) E
 | .comp ns _ caps tgt elt it cond _,st,Q,E=>vE it st (fun x st=>st.on fun fr H=>iterP x H fun all w =>
   ForI all w (fun v st1 k=>st1.on fun fr1 H1=>setT tgt v fr1 fun fr2=>vE cond ⟨fr2,H1⟩ (fun c st2=>compK cond c (vE elt st2 (fun y st3=>st3.on fun fr3 H3=>Lst H3 H.length fun xs=>xs.length < LIM/\k ⟨fr3,H3.set H.length (.list (xs++[y]))⟩) fun _ _=>False) (k st2)) fun _ _=>False)
    ⟨capture caps fr ns.length,H++[.list []]⟩ fun st1=>st1.on fun _ H1=>Q (.ref H.length) ⟨fr,H1⟩) E
termination_by structural e=>e
noncomputable def vEs:AEs->St->(List AV->St->Prop)->KX->Prop
 | .nil,st,Q,_=>Q [] st
 | .cons e es,st,Q,E=>vE e st (fun v st=>vEs es st (fun vs st=>Q (v::vs) st) E) E
termination_by structural es=>es
noncomputable def vB:Bool->AEs->St->KV->KX->Prop
 | _,.nil,_,_,_=>False
 | k,.cons e es,st,Q,E=>AEs.casesOn es (vE e st Q E) fun _ _=>vE e st (fun v st=>v.isBool fun b=>Bool.casesOn k (ifb b (Q v st) (vB k es st Q E)) (ifb b (vB k es st Q E) (Q v st))) E
termination_by structural _ es=>es
end
noncomputable def vF:AFs->St->(St->Prop)->KX->Prop
 | .nil,st,k,_=>k st
 | .txt _ _ r,st,k,E=>vF r st k E
 | .fmt e _ r,st,k,E=>vE T C e st (fun v st=>st.on fun fr H=>fmtP v H/\vF r ⟨fr,H⟩ k E) E
termination_by structural r=>r
noncomputable def handle (c:Nat) (st:St) (Q:Fl->St->Prop) (E:KX):List HRow->Prop
 | []=>E c st
 | h::r=>T.isExc c=true/\T.isExc h.c=true/\ifb (T.sub c h.c) (Q (.ret h.v) st) (handle c st Q E r)
noncomputable def setA (x:AV) (a:Nat) (v:AV) (st:St) (k:St->Prop):Prop:=x.isRef fun l=>st.on fun fr H=>Ins H l fun c fs=>T.field c a=true/\fs.length < 64/\k ⟨fr,H.set l (.inst c (fset a v fs))⟩
noncomputable def setS (x j v:AV) (st:St) (k:St->Prop):Prop:=x.isRef fun l=>Nt j fun n=>st.on fun fr H=>Lst H l fun xs=>n < xs.length/\k ⟨fr,H.set l (.list (xs.set n v))⟩
noncomputable def vT (t:AT) (v:AV) (st:St) (k:St->Prop) (E:KX):Prop:=match t with
 | .t0 t=>st.on fun fr H=>setT t v fr fun fr=>k ⟨fr,H⟩
 | .attr o a _=>vE T C o st (fun x st=>setA T x a v st k) E
 | .sub o i _=>vE T C o st (fun x st=>vE T C i st (fun j st=>setS x j v st k) E) E
mutual
noncomputable def vS:AS->St->(Fl->St->Prop)->KX->Prop
 | .expr e _,st,Q,E=>vE T C e st (fun _ st=>Q .next st) E
 | .ret e _,st,Q,E=>vE T C e st (fun v st=>Q (.ret v) st) E
 | .ret0 _,st,Q,_=>Q (.ret .none) st
 | .asg t e _,st,Q,E=>vE T C e st (fun v st=>vT T C t v st (fun st=>Q .next st) E) E
 | .aug i op e _ _,st,Q,E=>getFr i st.fr fun a=>vE T C e st (fun b st=>augP op a b fun v=>st.on fun fr H=>setFr v i fr fun fr=>Q .next ⟨fr,H⟩) E
 | .augAttr i a op e _ _ _,st,Q,E=>getFr i st.fr fun x=>x.isRef fun l=>st.on fun fr H=>Ins H l fun c fs=>T.field c a=true/\optP (fget a fs) fun old=>vE T C e ⟨fr,H⟩ (fun b st=>augP op old b fun v=>setA T x a v st fun st=>Q .next st) E
 | .ite c b o _,st,Q,E=>vE T C c st (fun v st=>v.isBool fun t=>ifb t (vSs b st Q E) (vSs o st Q E)) E
 | .whl c b _,st,Q,E=>WhlI (fun st k=>vE T C c st (fun v st=>v.isBool fun t=>ifb t (vSs b st (onNext k Q) E) (Q .next st)) E) st
 | .for t it b _,st,Q,E=>vE T C it st (fun x st=>st.on fun fr H=>iterP x H fun all w=>ForI all w (fun v st k=>st.on fun fr H=>setT t v fr fun fr=>vSs b ⟨fr,H⟩ (onNext k Q) E) ⟨fr,H⟩ fun st=>Q .next st) E
 | .raise c _ fs _ _ _ _,st,_,E=>T.isExc c=true/\vF T C fs st (fun st=>E c st) E
 | .try b hs _,st,Q,E=>vSs b st Q fun c st=>handle T c st Q E hs
termination_by structural s=>s
noncomputable def vSs:ASs->St->(Fl->St->Prop)->KX->Prop
 | .nil,st,Q,_=>Q .next st
 | .cons s ss,st,Q,E=>vS s st (onNext (fun st=>vSs ss st Q E) Q) E
termination_by structural ss=>ss
end
noncomputable def retK (Q:AV->AH->Prop) (f:Fl) (st:St):Prop:=st.on fun _ H=>Fl.casesOn f (Q .none H) fun v=>Q v H
noncomputable def frame0 (fd:FD) (vs:List AV):List (Option AV):=(vs++fd.dflts.drop (fd.dflts.length - (fd.np - vs.length))).map some++List.replicate (fd.names.length - fd.np) none
noncomputable def vCall (fd:FD) (vs:List AV) (H:AH) (Q:AV->AH->Prop) (E:Nat->AH->Prop):Prop :=
 (Nat.ble vs.length fd.np&&Nat.ble fd.np (vs.length + fd.dflts.length))=true/\vSs T C fd.body ⟨frame0 fd vs,H⟩ (retK Q) fun c st=>st.on fun _ H=>E c H
end
noncomputable def callN (T:Tab):Nat->Call
 | 0=>fun _ _ _ _ _ _=>False
 | d+1=>fun c f vs H Q E=>optP (T.fn c f) fun fd=>vCall T (callN T d) fd vs H Q E
structure FRow where
 c:Nat
 f:Nat
 a:Addr
 fd:FD
structure CRow where
 c:Nat
 C:Addr
 fields:List Nat
structure ERow where
 c:Nat
 C:Addr
noncomputable def rowOf:List FRow->Nat->Nat->Option FRow
 | [],_,_=>none
 | r::rs,c,f=>bif Nat.beq r.c c&&Nat.beq r.f f then some r else rowOf rs c f
noncomputable def crowOf:List CRow->Nat->Option CRow
 | [],_=>none
 | r::rs,c=>bif Nat.beq r.c c then some r else crowOf rs c
noncomputable def erowOf:List ERow->Nat->Option ERow
 | [],_=>none
 | r::rs,c=>bif Nat.beq r.c c then some r else erowOf rs c
noncomputable def glbOf:List (Nat×Int)->Nat->Option Int
 | [],_=>none
 | r::rs,c=>bif Nat.beq r.1 c then some r.2 else glbOf rs c
end Ab
end
section
namespace Ab
open PySem
noncomputable def b_write_groups_1_0:ASs:=.cons (.raise 2 none (.fmt (.loc 0 8832768) 8816448 (.txt " does not fit a varint of at most " 8867776 (.fmt (.loc 1 9441536) 9425216 (.nil)))) 8786304 8619456 8622528 8524224) (.nil)
noncomputable def b_write_groups_2_1:ASs:=.cons (.aug 0 .RShift (.cst (.int 7) 25396160) 25297472 25297856) (.nil)
noncomputable def b_write_groups_2_0:ASs:=.cons (.expr (.lmeth (.loc 2 21103296) .bappend (.cons (.bin .BitOr (.bin .BitAnd (.loc 0 21284096) (.cst (.int 127) 21350016) 21284480) (.cst (.int 128) 21448704) 21284864) (.nil)) 21103744 21104704) 21104704) (b_write_groups_2_1)
noncomputable def b_write_groups_0_4:ASs:=.cons (.ret (.prim .bytes (.cons (.loc 2 33834240) (.nil)) 33735680 33736000) 33621312) (.nil)
noncomputable def b_write_groups_0_3:ASs:=.cons (.expr (.lmeth (.loc 2 29426112) .bappend (.cons (.loc 0 29606912) (.nil)) 29426560 29426752) 29426752) (b_write_groups_0_4)
noncomputable def b_write_groups_0_2:ASs:=.cons (.whl (.cmp .GtE (.loc 0 16941760) (.cst (.int 128) 17024128) 16942208) (b_write_groups_2_0) 16843714) (b_write_groups_0_3)
noncomputable def b_write_groups_0_1:ASs:=.cons (.asg (.t0 (.loc 2 12648896)) (.prim .bytearray (.nil) 12747968 12748096) 12649792) (b_write_groups_0_2)
noncomputable def b_write_groups_0_0:ASs:=.cons (.ite (.bop false (.cons (.cmp .Lt (.loc 0 4309504) (.cst (.int 0) 4375296) 4309760) (.cons (.cmp .Gt (.loc 0 4457536) (.loc 1 4523520) 4457984) (.nil))) 4310528) (b_write_groups_1_0) (.nil) 4264385) (b_write_groups_0_1)
noncomputable def fd_write_groups:FD:=⟨22,["n","most","out"],2,[],b_write_groups_0_0⟩
noncomputable def b_read_groups_1_0:ASs:=.cons (.raise 3 none (.txt "a varint is asked at " 8850496 (.fmt (.loc 1 9211136) 9194816 (.nil))) 8818048 8619584 8621504 8523200) (.nil)
noncomputable def b_read_groups_3_0:ASs:=.cons (.raise 3 (some "the octets end within a varint") (.nil) 29855616 29656896 29659072 29560768) (.nil)
noncomputable def b_read_groups_5_0:ASs:=.cons (.raise 4 none (.txt "a varint holds " 55053248 (.fmt (.loc 4 55315520) 55299200 (.txt ", over " 55348800 (.fmt (.loc 3 55480192) 55463872 (.nil))))) 55021568 54888256 54890560 54792256) (.nil)
noncomputable def b_read_groups_4_1:ASs:=.cons (.ret (.tup (.cons (.loc 4 59049280) (.cons (.loc 1 59098688) (.nil))) 59033216) 58918528) (.nil)
noncomputable def b_read_groups_4_0:ASs:=.cons (.ite (.cmp .Gt (.loc 4 50578432) (.loc 3 50644416) 50578880) (b_read_groups_5_0) (.nil) 50532417) (b_read_groups_4_1)
noncomputable def b_read_groups_2_5:ASs:=.cons (.aug 5 .Add (.cst (.int 7) 63194240) 63046464 63046784) (.nil)
noncomputable def b_read_groups_2_4:ASs:=.cons (.ite (.cmp .Lt (.loc 7 46318592) (.cst (.int 128) 46450048) 46318976) (b_read_groups_4_0) (.nil) 46270083) (b_read_groups_2_5)
noncomputable def b_read_groups_2_3:ASs:=.cons (.aug 4 .BitOr (.bin .LShift (.bin .BitAnd (.loc 7 42173632) (.cst (.int 127) 42305088) 42174016) (.loc 5 42436800) 42158272) 42074688 42076352) (b_read_groups_2_4)
noncomputable def b_read_groups_2_2:ASs:=.cons (.aug 1 .Add (.cst (.int 1) 37979072) 37880448 37880768) (b_read_groups_2_3)
noncomputable def b_read_groups_2_1:ASs:=.cons (.asg (.t0 (.loc 7 33686336)) (.sub (.loc 0 33817856) (.loc 1 33899968) 33818112) 33687040) (b_read_groups_2_2)
noncomputable def b_read_groups_2_0:ASs:=.cons (.ite (.cmp .GtE (.loc 1 25346880) (.prim .len (.cons (.loc 0 25511488) (.nil)) 25445632 25446016) 25347712) (b_read_groups_3_0) (.nil) 25300929) (b_read_groups_2_1)
noncomputable def b_read_groups_0_4:ASs:=.cons (.raise 4 none (.txt "a varint goes on behind " 67439360 (.fmt (.loc 2 67849408) 67833088 (.txt " octets" 67964608 (.nil)))) 67407616 67273792 67276608 67178304) (.nil)
noncomputable def b_read_groups_0_3:ASs:=.cons (.for (.loc 6 21103360) (.prim .range (.cons (.loc 2 21333760) (.nil)) 21235008 21235520) (b_read_groups_2_0) 21038218) (b_read_groups_0_4)
noncomputable def b_read_groups_0_2:ASs:=.cons (.asg (.t0 (.loc 5 16843328)) (.cst (.int 0) 16974656) 16843584) (b_read_groups_0_3)
noncomputable def b_read_groups_0_1:ASs:=.cons (.asg (.t0 (.loc 4 12648768)) (.cst (.int 0) 12714560) 12649024) (b_read_groups_0_2)
noncomputable def b_read_groups_0_0:ASs:=.cons (.ite (.cmp .Lt (.loc 1 4309568) (.cst (.int 0) 4391744) 4309824) (b_read_groups_1_0) (.nil) 4263361) (b_read_groups_0_1)
noncomputable def fd_read_groups:FD:=⟨31,["data","at","octets","most","n","shift","turn","octet"],4,[],b_read_groups_0_0⟩
noncomputable def b_put_varint_1_0:ASs:=.cons (.ret (.prim .bytes (.cons (.lst (.cons (.loc 0 8750528) (.nil)) 8734208) (.nil)) 8635648 8635968) 8521280) (.nil)
noncomputable def b_put_varint_0_1:ASs:=.cons (.ret (.call 6 (.cons (.loc 0 12977728) (.cons (.glb 5 13027392) (.nil))) 12764608 12765312) 12650624) (.nil)
noncomputable def b_put_varint_0_0:ASs:=.cons (.ite (.bop true (.cons (.cmp .GtE (.loc 0 4309504) (.cst (.int 0) 4391744) 4309824) (.cons (.cmp .Lt (.loc 0 4490432) (.cst (.int 128) 4556352) 4490816) (.nil))) 4310592) (b_put_varint_1_0) (.nil) 4261441) (b_put_varint_0_1)
noncomputable def fd_put_varint:FD:=⟨48,["n"],1,[],b_put_varint_0_0⟩
noncomputable def b_read_varint_1_0:ASs:=.cons (.ret (.tup (.cons (.sub (.loc 0 8652032) (.loc 1 8734144) 8652288) (.cons (.bin .Add (.loc 1 8816384) (.cst (.int 1) 8898560) 8816640) (.nil))) 8636480) 8521792) (.nil)
noncomputable def b_read_varint_0_1:ASs:=.cons (.ret (.call 7 (.cons (.loc 0 12961472) (.cons (.loc 1 13060032) (.cons (.cst (.int 10) 13125824) (.cons (.glb 5 13191872) (.nil))))) 12764544 12765952) 12651264) (.nil)
noncomputable def b_read_varint_0_0:ASs:=.cons (.ite (.bop true (.cons (.cmp .GtE (.loc 1 4309568) (.cst (.int 0) 4408192) 4309888) (.cons (.cmp .Lt (.loc 1 4506944) (.prim .len (.cons (.loc 0 4655104) (.nil)) 4589248 4589632) 4507712) (.cons (.cmp .Lt (.sub (.loc 0 4836032) (.loc 1 4918144) 4836288) (.cst (.int 128) 5016896) 4836672) (.nil)))) 4312448) (b_read_varint_1_0) (.nil) 4261953) (b_read_varint_0_1)
noncomputable def fd_read_varint:FD:=⟨52,["data","at"],2,[],b_read_varint_0_0⟩
noncomputable def b_put_varint32_1_0:ASs:=.cons (.ret (.prim .bytes (.cons (.lst (.cons (.loc 0 8750528) (.nil)) 8734208) (.nil)) 8635648 8635968) 8521280) (.nil)
noncomputable def b_put_varint32_0_1:ASs:=.cons (.ret (.call 6 (.cons (.loc 0 12977728) (.cons (.glb 8 13027392) (.nil))) 12764608 12765312) 12650624) (.nil)
noncomputable def b_put_varint32_0_0:ASs:=.cons (.ite (.bop true (.cons (.cmp .GtE (.loc 0 4309504) (.cst (.int 0) 4391744) 4309824) (.cons (.cmp .Lt (.loc 0 4490432) (.cst (.int 128) 4556352) 4490816) (.nil))) 4310592) (b_put_varint32_1_0) (.nil) 4261441) (b_put_varint32_0_1)
noncomputable def fd_put_varint32:FD:=⟨56,["n"],1,[],b_put_varint32_0_0⟩
noncomputable def b_read_varint32_1_0:ASs:=.cons (.ret (.tup (.cons (.sub (.loc 0 8652032) (.loc 1 8734144) 8652288) (.cons (.bin .Add (.loc 1 8816384) (.cst (.int 1) 8898560) 8816640) (.nil))) 8636480) 8521792) (.nil)
noncomputable def b_read_varint32_0_1:ASs:=.cons (.ret (.call 7 (.cons (.loc 0 12961472) (.cons (.loc 1 13060032) (.cons (.cst (.int 5) 13125760) (.cons (.glb 8 13175424) (.nil))))) 12764544 12765888) 12651200) (.nil)
noncomputable def b_read_varint32_0_0:ASs:=.cons (.ite (.bop true (.cons (.cmp .GtE (.loc 1 4309568) (.cst (.int 0) 4408192) 4309888) (.cons (.cmp .Lt (.loc 1 4506944) (.prim .len (.cons (.loc 0 4655104) (.nil)) 4589248 4589632) 4507712) (.cons (.cmp .Lt (.sub (.loc 0 4836032) (.loc 1 4918144) 4836288) (.cst (.int 128) 5016896) 4836672) (.nil)))) 4312448) (b_read_varint32_1_0) (.nil) 4261953) (b_read_varint32_0_1)
noncomputable def fd_read_varint32:FD:=⟨60,["data","at"],2,[],b_read_varint32_0_0⟩
noncomputable def b_put_fixed32_1_0:ASs:=.cons (.raise 2 none (.fmt (.loc 0 8832768) 8816448 (.txt " does not fit 32 bits" 8866944 (.nil))) 8785088 8619456 8621312 8523008) (.nil)
noncomputable def b_put_fixed32_0_1:ASs:=.cons (.ret (.prim .bytes (.cons (.lst (.cons (.bin .BitAnd (.loc 0 12879040) (.cst (.int 255) 12944960) 12879424) (.cons (.bin .BitAnd (.bin .RShift (.loc 0 13027072) (.cst (.int 8) 13109312) 13027392) (.cst (.int 255) 13175232) 13027776) (.cons (.bin .BitAnd (.bin .RShift (.loc 0 13257344) (.cst (.int 16) 13339648) 13257728) (.cst (.int 255) 13421952) 13258112) (.cons (.bin .RShift (.loc 0 13504064) (.cst (.int 24) 13586368) 13504448) (.nil))))) 12865536) (.nil)) 12764160 12767296) 12652608) (.nil)
noncomputable def b_put_fixed32_0_0:ASs:=.cons (.ite (.bop false (.cons (.cmp .Lt (.loc 0 4309504) (.cst (.int 0) 4375296) 4309760) (.cons (.cmp .Gt (.loc 0 4457536) (.glb 8 4523648) 4458112) (.nil))) 4310656) (b_put_fixed32_1_0) (.nil) 4263169) (b_put_fixed32_0_1)
noncomputable def fd_put_fixed32:FD:=⟨64,["n"],1,[],b_put_fixed32_0_0⟩
noncomputable def b_read_fixed32_1_0:ASs:=.cons (.raise 3 none (.txt "four octets are not there at " 8851008 (.fmt (.loc 1 9342720) 9326400 (.nil))) 8818560 8619584 8622016 8523712) (.nil)
noncomputable def b_read_fixed32_0_1:ASs:=.cons (.ret (.bin .BitOr (.bin .BitOr (.bin .BitOr (.sub (.loc 0 12764096) (.loc 1 12846208) 12764352) (.bin .LShift (.sub (.loc 0 12945024) (.bin .Add (.loc 1 13027136) (.cst (.int 1) 13109312) 13027392) 12945536) (.cst (.int 8) 13208000) 12945856) 12765632) (.bin .LShift (.sub (.loc 0 13273984) (.bin .Add (.loc 1 13356096) (.cst (.int 2) 13438272) 13356352) 13274496) (.cst (.int 16) 13537024) 13274880) 12766976) (.bin .LShift (.sub (.loc 0 13619392) (.bin .Add (.loc 1 13701504) (.cst (.int 3) 13783680) 13701760) 13619904) (.cst (.int 24) 13882432) 13620288) 12768320) 12653632) (.nil)
noncomputable def b_read_fixed32_0_0:ASs:=.cons (.ite (.bop false (.cons (.cmp .Lt (.loc 1 4309568) (.cst (.int 0) 4391744) 4309824) (.cons (.cmp .Gt (.bin .Add (.loc 1 4474048) (.cst (.int 4) 4556224) 4474304) (.prim .len (.cons (.loc 0 4688000) (.nil)) 4622144 4622528) 4475072) (.nil))) 4311232) (b_read_fixed32_1_0) (.nil) 4263873) (b_read_fixed32_0_1)
noncomputable def fd_read_fixed32:FD:=⟨68,["data","at"],2,[],b_read_fixed32_0_0⟩
noncomputable def b_read_lengthed_1_0:ASs:=.cons (.raise 3 none (.fmt (.loc 2 13060224) 13043904 (.txt " octets are told, " 13159744 (.fmt (.bin .Sub (.prim .len (.cons (.loc 0 13537152) (.nil)) 13471296 13471680) (.loc 1 13668608) 13472000) 13455680 (.txt " are there" 13718464 (.nil))))) 13014016 12813888 12817472 12719168) (.nil)
noncomputable def b_read_lengthed_0_2:ASs:=.cons (.ret (.tup (.cons (.prim .bytes (.cons (.slc (.loc 0 17073536) (.loc 1 17155648) (.bin .Add (.loc 1 17204992) (.loc 2 17287424) 17205504) 17156352 17074496) (.nil)) 16974912 16976256) (.cons (.bin .Add (.loc 1 17435264) (.loc 2 17517696) 17435776) (.nil))) 16960704) 16846016) (.nil)
noncomputable def b_read_lengthed_0_1:ASs:=.cons (.ite (.cmp .Gt (.bin .Add (.loc 1 8503872) (.loc 2 8586304) 8504384) (.prim .len (.cons (.loc 0 8783616) (.nil)) 8717760 8718144) 8505152) (b_read_lengthed_1_0) (.nil) 8459329) (b_read_lengthed_0_2)
noncomputable def b_read_lengthed_0_0:ASs:=.cons (.asg (.t0 (.tup [(2,4260416),(1,4375360)] 4260672)) (.call 9 (.cons (.loc 0 4688000) (.cons (.loc 1 4786560) (.nil))) 4458304 4458944) 4262336) (b_read_lengthed_0_1)
noncomputable def fd_read_lengthed:FD:=⟨72,["data","at","count"],2,[],b_read_lengthed_0_0⟩
noncomputable def b_checksum_1_0:ASs:=.cons (.ret (.call 12 (.cons (.call 11 (.cons (.loc 1 8832960) (.nil)) 8717952 8718336) (.nil)) 8635584 8636480) 8521792) (.nil)
noncomputable def b_checksum_2_0:ASs:=.cons (.ret (.bin .BitAnd (.bin .Add (.bin .Add (.bin .Mult (.prim .sum (.cons (.loc 1 17089984) (.nil)) 17024128 17024512) (.cst (.int 251) 17221504) 17024896) (.bin .Mult (.prim .len (.cons (.loc 1 17386048) (.nil)) 17320192 17320576) (.cst (.int 65537) 17517696) 17321088) 17026176) (.cst (.int 7) 17649024) 17026432) (.glb 8 17715136) 17027008) 16912320) (.nil)
noncomputable def b_checksum_0_2:ASs:=.cons (.raise 2 none (.txt "no check is of kind " 21334656 (.fmt (.loc 0 21679040) 21662720 (.nil))) 21302336 21136576 21138560 21040256) (.nil)
noncomputable def b_checksum_0_1:ASs:=.cons (.ite (.cmp .Eq (.loc 0 12698304) (.glb 13 12830208) 12699136) (b_checksum_2_0) (.nil) 12652481) (b_checksum_0_2)
noncomputable def b_checksum_0_0:ASs:=.cons (.ite (.cmp .Eq (.loc 0 4309696) (.glb 10 4441600) 4310528) (b_checksum_1_0) (.nil) 4261953) (b_checksum_0_1)
noncomputable def fd_checksum:FD:=⟨100,["kind","data"],2,[],b_checksum_0_0⟩
noncomputable def b_decode_manifesto_1_0:ASs:=.cons (.raise 4 none (.txt "manifesto: order number " 25562112 (.fmt (.loc 4 25972288) 25955968 (.txt " is out of reach" 26120832 (.nil)))) 25531072 25396544 25400064 25301760) (.nil)
noncomputable def b_decode_manifesto_3_0:ASs:=.cons (.raise 4 none (.txt "manifesto: level " 54987584 (.fmt (.loc 8 55282880) 55266560 (.txt " is out of reach" 55382272 (.nil)))) 54956352 54822464 54825344 54727040) (.nil)
noncomputable def b_decode_manifesto_2_6:ASs:=.cons (.expr (.lmeth (.loc 7 75629312) .append (.cons (.new 20 (.cons (.loc 8 75958336) (.cons (.loc 9 76073408) (.cons (.loc 10 76172160) (.cons (.loc 11 76287488) (.cons (.loc 12 76451904) (.nil)))))) 75826880 75829376) (.nil)) 75629760 75632832) 75632832) (.nil)
noncomputable def b_decode_manifesto_2_5:ASs:=.cons (.asg (.t0 (.loc 12 71435200)) (.meth (.loc 1 71599616) 17 (.nil) 71600192 71600320) 71436480) (b_decode_manifesto_2_6)
noncomputable def b_decode_manifesto_2_4:ASs:=.cons (.asg (.t0 (.loc 11 67240960)) (.meth (.loc 1 67421760) 17 (.nil) 67422336 67422464) 67242240) (b_decode_manifesto_2_5)
noncomputable def b_decode_manifesto_2_3:ASs:=.cons (.asg (.t0 (.loc 10 63046464)) (.meth (.loc 1 63178112) 19 (.nil) 63178624 63178752) 63047680) (b_decode_manifesto_2_4)
noncomputable def b_decode_manifesto_2_2:ASs:=.cons (.asg (.t0 (.loc 9 58852096)) (.meth (.loc 1 58967360) 15 (.nil) 58967808 58967936) 58853248) (b_decode_manifesto_2_3)
noncomputable def b_decode_manifesto_2_1:ASs:=.cons (.ite (.cmp .GtE (.loc 8 50512896) (.glb 18 50661312) 50513856) (b_decode_manifesto_3_0) (.nil) 50467201) (b_decode_manifesto_2_2)
noncomputable def b_decode_manifesto_2_0:ASs:=.cons (.asg (.t0 (.loc 8 46269248)) (.meth (.loc 1 46400896) 15 (.nil) 46401344 46401472) 46270400) (b_decode_manifesto_2_1)
noncomputable def b_decode_manifesto_0_10:ASs:=.cons (.ret (.new 22 (.cons (.loc 2 84231808) (.cons (.loc 3 84346880) (.cons (.loc 5 84446016) (.cons (.loc 4 84659648) (.cons (.loc 7 84823872) (.nil)))))) 84067584 84070272) 83955584) (.nil)
noncomputable def b_decode_manifesto_0_9:ASs:=.cons (.expr (.meth (.loc 1 79757952) 21 (.nil) 79758272 79758400) 79758400) (b_decode_manifesto_0_10)
noncomputable def b_decode_manifesto_0_8:ASs:=.cons (.whl (.cmp .Lt (.prim .len (.cons (.loc 7 42173568) (.nil)) 42107712 42108096) (.loc 6 42305216) 42108608) (b_decode_manifesto_2_0) 42012872) (b_decode_manifesto_0_9)
noncomputable def b_decode_manifesto_0_7:ASs:=.cons (.asg (.t0 (.loc 7 37814784)) (.lst (.nil) 37929792) 37815104) (b_decode_manifesto_0_8)
noncomputable def b_decode_manifesto_0_6:ASs:=.cons (.asg (.t0 (.loc 6 33620544)) (.meth (.loc 1 33752192) 15 (.nil) 33752640 33752768) 33621696) (b_decode_manifesto_0_7)
noncomputable def b_decode_manifesto_0_5:ASs:=.cons (.asg (.t0 (.loc 5 29426624)) (.meth (.loc 1 29656576) 17 (.nil) 29657152 29657280) 29427904) (b_decode_manifesto_0_6)
noncomputable def b_decode_manifesto_0_4:ASs:=.cons (.ite (.cmp .Gt (.loc 4 21087168) (.glb 16 21268032) 21087808) (b_decode_manifesto_1_0) (.nil) 21041921) (b_decode_manifesto_0_5)
noncomputable def b_decode_manifesto_0_3:ASs:=.cons (.asg (.t0 (.loc 4 16843520)) (.meth (.loc 1 17024320) 15 (.nil) 17024768 17024896) 16844672) (b_decode_manifesto_0_4)
noncomputable def b_decode_manifesto_0_2:ASs:=.cons (.asg (.t0 (.loc 3 12648960)) (.meth (.loc 1 12764224) 15 (.nil) 12764672 12764800) 12650112) (b_decode_manifesto_0_3)
noncomputable def b_decode_manifesto_0_1:ASs:=.cons (.asg (.t0 (.loc 2 8454720)) (.meth (.loc 1 8586368) 15 (.nil) 8586816 8586944) 8455872) (b_decode_manifesto_0_2)
noncomputable def b_decode_manifesto_0_0:ASs:=.cons (.asg (.t0 (.loc 1 4260480)) (.new 14 (.cons (.loc 0 4523520) (.nil)) 4408512 4408896) 4261440) (b_decode_manifesto_0_1)
noncomputable def fd_decode_manifesto:FD:=⟨239,["data","cursor","index","term","last_seq","conf_octets","count","runs","level","size","check","smallest","largest"],1,[],b_decode_manifesto_0_0⟩
noncomputable def b_lay_2_1:ASs:=.cons (.ret0 21169280) (.nil)
noncomputable def b_lay_2_0:ASs:=.cons (.asg (.sub (.loc 0 16974848) (.bin .Sub (.prim .len (.cons (.loc 0 17122880) (.nil)) 17057024 17057408) (.cst (.int 1) 17254272) 17057664) 16975808) (.tup (.cons (.loc 3 17353216) (.cons (.bin .Add (.loc 4 17468224) (.loc 2 17567104) 17468800) (.nil))) 17337792) 16977344) (b_lay_2_1)
noncomputable def b_lay_1_1:ASs:=.cons (.ite (.cmp .Eq (.bin .Add (.loc 3 12764160) (.prim .len (.cons (.loc 4 12961408) (.nil)) 12895616 12895936) 12764864) (.loc 1 13092928) 12765248) (b_lay_2_0) (.nil) 12715138) (.nil)
noncomputable def b_lay_1_0:ASs:=.cons (.asg (.t0 (.tup [(3,8520512),(4,8635520)] 8520832)) (.sub (.loc 0 8734272) (.bin .Sub (.prim .len (.cons (.loc 0 8882304) (.nil)) 8816448 8816832) (.cst (.int 1) 9013696) 8817088) 8735232) 8522240) (b_lay_1_1)
noncomputable def b_lay_0_1:ASs:=.cons (.expr (.lmeth (.loc 0 25231872) .append (.cons (.tup (.cons (.loc 1 25445568) (.cons (.loc 2 25511616) (.nil))) 25429760) (.nil)) 25232320 25233216) 25233216) (.nil)
noncomputable def b_lay_0_0:ASs:=.cons (.ite (.cmp .Gt (.prim .len (.cons (.loc 0 4375488) (.nil)) 4309632 4310016) (.cst (.int 0) 4506880) 4310272) (b_lay_1_0) (.nil) 4260996) (b_lay_0_1)
noncomputable def fd_lay:FD:=⟨260,["kept","at","octets","start","old"],3,[],b_lay_0_0⟩
noncomputable def b_Cursor_init_1_0:ASs:=.cons (.raise 3 none (.txt "place " 8915328 (.fmt (.loc 2 9030208) 9013888 (.txt " is not within " 9080384 (.fmt (.prim .len (.cons (.loc 1 9408640) (.nil)) 9342784 9343168) 9326848 (.txt " octets" 9507520 (.nil)))))) 8884992 8685376 8688448 8590144) (.nil)
noncomputable def b_Cursor_init_0_2:ASs:=.cons (.asg (.attr (.loc 0 16909056) 24 16909248) (.loc 2 17073408) 16909568) (.nil)
noncomputable def b_Cursor_init_0_1:ASs:=.cons (.asg (.attr (.loc 0 12714752) 23 12715072) (.loc 1 12912128) 12715520) (b_Cursor_init_0_2)
noncomputable def b_Cursor_init_0_0:ASs:=.cons (.ite (.bop false (.cons (.cmp .Lt (.loc 2 4375360) (.cst (.int 0) 4457536) 4375616) (.cons (.cmp .Gt (.loc 2 4539840) (.prim .len (.cons (.loc 1 4688000) (.nil)) 4622144 4622528) 4540608) (.nil))) 4376768) (b_Cursor_init_1_0) (.nil) 4330305) (b_Cursor_init_0_1)
noncomputable def fd_Cursor_init:FD:=⟨108,["self","data","at"],3,[.int 0],b_Cursor_init_0_0⟩
noncomputable def b_Cursor_left_0_0:ASs:=.cons (.ret (.bin .Sub (.prim .len (.cons (.attr (.loc 0 4507072) 23 4507392) (.nil)) 4441216 4441920) (.attr (.loc 0 4720896) 24 4721088) 4442560) 4327872) (.nil)
noncomputable def fd_Cursor_left:FD:=⟨114,["self"],1,[],b_Cursor_left_0_0⟩
noncomputable def b_Cursor_varint_1_1:ASs:=.cons (.ret (.sub (.attr (.loc 0 17089984) 23 17090304) (.loc 1 17254336) 17090560) 16975872) (.nil)
noncomputable def b_Cursor_varint_1_0:ASs:=.cons (.asg (.attr (.loc 0 12780544) 24 12780736) (.bin .Add (.loc 1 12944896) (.cst (.int 1) 13027072) 12945152) 12781312) (b_Cursor_varint_1_1)
noncomputable def b_Cursor_varint_0_4:ASs:=.cons (.ret (.loc 2 29606912) 29492224) (.nil)
noncomputable def b_Cursor_varint_0_3:ASs:=.cons (.asg (.attr (.loc 0 25297664) 24 25297856) (.loc 1 25462016) 25298176) (b_Cursor_varint_0_4)
noncomputable def b_Cursor_varint_0_2:ASs:=.cons (.asg (.t0 (.tup [(2,21103168),(1,21152576)] 21103424)) (.call 25 (.cons (.attr (.loc 0 21432320) 23 21432640) (.cons (.loc 1 21613120) (.nil))) 21235392 21236352) 21105280) (b_Cursor_varint_0_3)
noncomputable def b_Cursor_varint_0_1:ASs:=.cons (.ite (.bop true (.cons (.cmp .Lt (.loc 1 8569664) (.prim .len (.cons (.attr (.loc 0 8717824) 23 8718144) (.nil)) 8651968 8652672) 8570752) (.cons (.cmp .Lt (.sub (.attr (.loc 0 8964544) 23 8964864) (.loc 1 9128896) 8965120) (.cst (.int 128) 9227648) 8965504) (.nil))) 8572288) (b_Cursor_varint_1_0) (.nil) 8521730) (b_Cursor_varint_0_2)
noncomputable def b_Cursor_varint_0_0:ASs:=.cons (.asg (.t0 (.loc 1 4326016)) (.attr (.loc 0 4408384) 24 4408576) 4326656) (b_Cursor_varint_0_1)
noncomputable def fd_Cursor_varint:FD:=⟨117,["self","at","n"],1,[],b_Cursor_varint_0_0⟩
noncomputable def b_Cursor_fixed32_0_2:ASs:=.cons (.ret (.loc 1 12829696) 12715008) (.nil)
noncomputable def b_Cursor_fixed32_0_1:ASs:=.cons (.augAttr 0 24 .Add (.cst (.int 4) 8701184) 8520448 8520640 8520960) (b_Cursor_fixed32_0_2)
noncomputable def b_Cursor_fixed32_0_0:ASs:=.cons (.asg (.t0 (.loc 1 4325952)) (.call 26 (.cons (.attr (.loc 0 4605760) 23 4606080) (.cons (.attr (.loc 0 4786688) 24 4786880) (.nil))) 4392448 4393728) 4328192) (b_Cursor_fixed32_0_1)
noncomputable def fd_Cursor_fixed32:FD:=⟨126,["self","n"],1,[],b_Cursor_fixed32_0_0⟩
noncomputable def b_Cursor_lengthed_0_2:ASs:=.cons (.ret (.loc 1 12829696) 12715008) (.nil)
noncomputable def b_Cursor_lengthed_0_1:ASs:=.cons (.asg (.attr (.loc 0 8520448) 24 8520640) (.loc 2 8684800) 8520960) (b_Cursor_lengthed_0_2)
noncomputable def b_Cursor_lengthed_0_0:ASs:=.cons (.asg (.t0 (.tup [(1,4325952),(2,4375360)] 4326208)) (.call 27 (.cons (.attr (.loc 0 4688000) 23 4688320) (.cons (.attr (.loc 0 4868928) 24 4869120) (.nil))) 4458304 4459584) 4328512) (b_Cursor_lengthed_0_1)
noncomputable def fd_Cursor_lengthed:FD:=⟨134,["self","b","at"],1,[],b_Cursor_lengthed_0_0⟩
noncomputable def b_Cursor_done_1_0:ASs:=.cons (.raise 4 none (.fmt (.meth (.loc 0 8865856) 28 (.nil) 8866176 8866304) 8849984 (.txt " octets are left over" 9064320 (.nil))) 8818624 8685120 8687616 8589312) (.nil)
noncomputable def b_Cursor_done_0_0:ASs:=.cons (.ite (.cmp .Lt (.attr (.loc 0 4375488) 24 4375680) (.prim .len (.cons (.attr (.loc 0 4605760) 23 4606080) (.nil)) 4539904 4540608) 4376768) (b_Cursor_done_1_0) (.nil) 4329473) (.nil)
noncomputable def fd_Cursor_done:FD:=⟨156,["self"],1,[],b_Cursor_done_0_0⟩
noncomputable def b_Sink_init_0_0:ASs:=.cons (.asg (.attr (.loc 0 4326144) 29 4326528) (.prim .bytearray (.nil) 4540288 4540416) 4327424) (.nil)
noncomputable def fd_Sink_init:FD:=⟨161,["self"],1,[],b_Sink_init_0_0⟩
noncomputable def b_Sink_varint_1_0:ASs:=.cons (.expr (.lmeth (.attr (.loc 0 8586240) 29 8586624) .bappend (.cons (.loc 1 8882112) (.nil)) 8587072 8587264) 8587264) (.nil)
noncomputable def b_Sink_varint_2_0:ASs:=.cons (.expr (.lmeth (.attr (.loc 0 16974848) 29 16975232) .bextend (.cons (.call 30 (.cons (.loc 1 17451648) (.nil)) 17271296 17271488) (.nil)) 16975680 16976640) 16976640) (.nil)
noncomputable def b_Sink_varint_0_0:ASs:=.cons (.ite (.bop true (.cons (.cmp .GtE (.loc 1 4375296) (.cst (.int 0) 4457536) 4375616) (.cons (.cmp .Lt (.loc 1 4556224) (.cst (.int 128) 4622144) 4556608) (.nil))) 4376384) (b_Sink_varint_1_0) (b_Sink_varint_2_0) 4328195) (.nil)
noncomputable def fd_Sink_varint:FD:=⟨164,["self","n"],2,[],b_Sink_varint_0_0⟩
noncomputable def b_Sink_fixed32_0_0:ASs:=.cons (.expr (.lmeth (.attr (.loc 0 4326144) 29 4326528) .bextend (.cons (.call 31 (.cons (.loc 1 4819392) (.nil)) 4622656 4622848) (.nil)) 4326976 4328000) 4328000) (.nil)
noncomputable def fd_Sink_fixed32:FD:=⟨170,["self","n"],2,[],b_Sink_fixed32_0_0⟩
noncomputable def b_Sink_lengthed_0_1:ASs:=.cons (.expr (.lmeth (.attr (.loc 0 8520448) 29 8520832) .bextend (.cons (.loc 1 8816320) (.nil)) 8521280 8521472) 8521472) (.nil)
noncomputable def b_Sink_lengthed_0_0:ASs:=.cons (.expr (.lmeth (.attr (.loc 0 4326144) 29 4326528) .bextend (.cons (.call 32 (.cons (.prim .len (.cons (.loc 1 4901632) (.nil)) 4835968 4836160) (.nil)) 4622720 4623232) (.nil)) 4326976 4328384) 4328384) (b_Sink_lengthed_0_1)
noncomputable def fd_Sink_lengthed:FD:=⟨176,["self","b"],2,[],b_Sink_lengthed_0_0⟩
noncomputable def b_Sink_done_0_0:ASs:=.cons (.ret (.prim .bytes (.cons (.attr (.loc 0 4539968) 29 4540352) (.nil)) 4441344 4442112) 4327424) (.nil)
noncomputable def fd_Sink_done:FD:=⟨191,["self"],1,[],b_Sink_done_0_0⟩
noncomputable def b_RunInfo_init_0_4:ASs:=.cons (.asg (.attr (.loc 0 21103360) 37 21103872) (.loc 5 21350272) 21104512) (.nil)
noncomputable def b_RunInfo_init_0_3:ASs:=.cons (.asg (.attr (.loc 0 16909056) 36 16909632) (.loc 4 17172480) 16910336) (b_RunInfo_init_0_4)
noncomputable def b_RunInfo_init_0_2:ASs:=.cons (.asg (.attr (.loc 0 12714752) 35 12715136) (.loc 3 12928640) 12715648) (b_RunInfo_init_0_3)
noncomputable def b_RunInfo_init_0_1:ASs:=.cons (.asg (.attr (.loc 0 8520448) 34 8520768) (.loc 2 8717824) 8521216) (b_RunInfo_init_0_2)
noncomputable def b_RunInfo_init_0_0:ASs:=.cons (.asg (.attr (.loc 0 4326144) 33 4326528) (.loc 1 4540032) 4327040) (b_RunInfo_init_0_1)
noncomputable def fd_RunInfo_init:FD:=⟨198,["self","level","size","check","smallest","largest"],6,[],b_RunInfo_init_0_0⟩
noncomputable def b_RunInfo_row_0_0:ASs:=.cons (.ret (.tup (.cons (.attr (.loc 0 4457728) 33 4458112) (.cons (.attr (.loc 0 4655104) 34 4655424) (.cons (.attr (.loc 0 4836032) 35 4836416) (.cons (.attr (.loc 0 5033408) 36 5033984) (.cons (.attr (.loc 0 5280128) 37 5280640) (.nil)))))) 4445120) 4330432) (.nil)
noncomputable def fd_RunInfo_row:FD:=⟨205,["self"],1,[],b_RunInfo_row_0_0⟩
noncomputable def b_RunInfo_fits_0_0:ASs:=.cons (.ret (.bop true (.cons (.cmp .Eq (.prim .len (.cons (.loc 1 4507072) (.nil)) 4441216 4441600) (.attr (.loc 0 4655104) 34 4655424) 4442432) (.cons (.cmp .Eq (.call 38 (.cons (.glb 13 5033728) (.cons (.loc 1 5214336) (.nil))) 4885632 4886720) (.attr (.loc 0 5362368) 35 5362752) 4887616) (.nil))) 4445248) 4330560) (.nil)
noncomputable def fd_RunInfo_fits:FD:=⟨208,["self","data"],2,[],b_RunInfo_fits_0_0⟩
noncomputable def b_Manifesto_init_0_4:ASs:=.cons (.asg (.attr (.loc 0 21103360) 43 21103680) (.loc 5 21300736) 21104128) (.nil)
noncomputable def b_Manifesto_init_0_3:ASs:=.cons (.asg (.attr (.loc 0 16909056) 42 16909632) (.loc 4 17172480) 16910336) (b_Manifesto_init_0_4)
noncomputable def b_Manifesto_init_0_2:ASs:=.cons (.asg (.attr (.loc 0 12714752) 41 12715520) (.loc 3 13027712) 12716416) (b_Manifesto_init_0_3)
noncomputable def b_Manifesto_init_0_1:ASs:=.cons (.asg (.attr (.loc 0 8520448) 40 8520768) (.loc 2 8717824) 8521216) (b_Manifesto_init_0_2)
noncomputable def b_Manifesto_init_0_0:ASs:=.cons (.asg (.attr (.loc 0 4326144) 39 4326528) (.loc 1 4540032) 4327040) (b_Manifesto_init_0_1)
noncomputable def fd_Manifesto_init:FD:=⟨212,["self","index","term","conf_octets","last_seq","runs"],6,[],b_Manifesto_init_0_0⟩
noncomputable def b_Manifesto_row_1_0:ASs:=.cons (.expr (.lmeth (.loc 1 12780544) .append (.cons (.meth (.loc 2 12977856) 44 (.nil) 12978112 12978240) (.nil)) 12780992 12781696) 12781696) (.nil)
noncomputable def b_Manifesto_row_0_2:ASs:=.cons (.ret (.tup (.cons (.attr (.loc 0 17040640) 39 17041024) (.cons (.attr (.loc 0 17238016) 40 17238336) (.cons (.attr (.loc 0 17418944) 41 17419712) (.cons (.attr (.loc 0 17715008) 42 17715584) (.cons (.prim .tuple (.cons (.loc 1 18060416) (.nil)) 17961792 17962176) (.nil)))))) 17028352) 16913664) (.nil)
noncomputable def b_Manifesto_row_0_1:ASs:=.cons (.for (.loc 2 8586176) (.attr (.loc 0 8701376) 43 8701696) (b_Manifesto_row_1_0) 8521857) (b_Manifesto_row_0_2)
noncomputable def b_Manifesto_row_0_0:ASs:=.cons (.asg (.t0 (.loc 1 4326144)) (.lst (.nil) 4441152) 4326464) (b_Manifesto_row_0_1)
noncomputable def fd_Manifesto_row:FD:=⟨219,["self","rows","run"],1,[],b_Manifesto_row_0_0⟩
noncomputable def b_Manifesto_encode_1_4:ASs:=.cons (.expr (.meth (.loc 1 50529280) 17 (.cons (.attr (.loc 2 50759488) 37 50760000) (.nil)) 50529856 50530688) 50530688) (.nil)
noncomputable def b_Manifesto_encode_1_3:ASs:=.cons (.expr (.meth (.loc 1 46334976) 17 (.cons (.attr (.loc 2 46565184) 36 46565760) (.nil)) 46335552 46336448) 46336448) (b_Manifesto_encode_1_4)
noncomputable def b_Manifesto_encode_1_2:ASs:=.cons (.expr (.meth (.loc 1 42140672) 19 (.cons (.attr (.loc 2 42354432) 35 42354816) (.nil)) 42141184 42141888) 42141888) (b_Manifesto_encode_1_3)
noncomputable def b_Manifesto_encode_1_1:ASs:=.cons (.expr (.meth (.loc 1 37946368) 15 (.cons (.attr (.loc 2 38143680) 34 38144000) (.nil)) 37946816 37947456) 37947456) (b_Manifesto_encode_1_2)
noncomputable def b_Manifesto_encode_1_0:ASs:=.cons (.expr (.meth (.loc 1 33752064) 15 (.cons (.attr (.loc 2 33949376) 33 33949760) (.nil)) 33752512 33753216) 33753216) (b_Manifesto_encode_1_1)
noncomputable def b_Manifesto_encode_0_7:ASs:=.cons (.ret (.meth (.loc 1 54772928) 21 (.nil) 54773248 54773376) 54658688) (.nil)
noncomputable def b_Manifesto_encode_0_6:ASs:=.cons (.for (.loc 2 29557696) (.attr (.loc 0 29672896) 43 29673216) (b_Manifesto_encode_1_0) 29493637) (b_Manifesto_encode_0_7)
noncomputable def b_Manifesto_encode_0_5:ASs:=.cons (.expr (.meth (.loc 1 25297664) 15 (.cons (.prim .len (.cons (.attr (.loc 0 25560832) 43 25561152) (.nil)) 25494976 25495680) (.nil)) 25298112 25299136) 25299136) (b_Manifesto_encode_0_6)
noncomputable def b_Manifesto_encode_0_4:ASs:=.cons (.expr (.meth (.loc 1 21103360) 17 (.cons (.attr (.loc 0 21333632) 41 21334400) (.nil)) 21103936 21105088) 21105088) (b_Manifesto_encode_0_5)
noncomputable def b_Manifesto_encode_0_3:ASs:=.cons (.expr (.meth (.loc 1 16909056) 15 (.cons (.attr (.loc 0 17106432) 42 17107008) (.nil)) 16909504 16910464) 16910464) (b_Manifesto_encode_0_4)
noncomputable def b_Manifesto_encode_0_2:ASs:=.cons (.expr (.meth (.loc 1 12714752) 15 (.cons (.attr (.loc 0 12912128) 40 12912448) (.nil)) 12715200 12715904) 12715904) (b_Manifesto_encode_0_3)
noncomputable def b_Manifesto_encode_0_1:ASs:=.cons (.expr (.meth (.loc 1 8520448) 15 (.cons (.attr (.loc 0 8717824) 39 8718208) (.nil)) 8520896 8521664) 8521664) (b_Manifesto_encode_0_2)
noncomputable def b_Manifesto_encode_0_0:ASs:=.cons (.asg (.t0 (.loc 1 4326144)) (.new 45 (.nil) 4441280 4441408) 4326720) (b_Manifesto_encode_0_1)
noncomputable def fd_Manifesto_encode:FD:=⟨225,["self","sink","run"],1,[],b_Manifesto_encode_0_0⟩
noncomputable def b_Inbox_init_1_0:ASs:=.cons (.raise 2 none (.txt "pieces of " 8882688 (.fmt (.loc 2 9063680) 9047360 (.txt " octets" 9260800 (.nil)))) 8851264 8685248 8687488 8589184) (.nil)
noncomputable def b_Inbox_init_2_0:ASs:=.cons (.expr (.lmeth (.attr (.loc 0 29557760) 48 29558080) .append (.cons (.lst (.nil) 29837248) (.nil)) 29558528 29558784) 29558784) (.nil)
noncomputable def b_Inbox_init_0_4:ASs:=.cons (.for (.loc 3 25363392) (.attr (.loc 1 25478912) 43 25479232) (b_Inbox_init_2_0) 25298945) (.nil)
noncomputable def b_Inbox_init_0_3:ASs:=.cons (.asg (.attr (.loc 0 21103360) 48 21103680) (.lst (.nil) 21300608) 21104000) (b_Inbox_init_0_4)
noncomputable def b_Inbox_init_0_2:ASs:=.cons (.asg (.attr (.loc 0 16909056) 47 16909824) (.loc 2 17222016) 16910720) (b_Inbox_init_0_3)
noncomputable def b_Inbox_init_0_1:ASs:=.cons (.asg (.attr (.loc 0 12714752) 46 12715392) (.loc 1 12994688) 12716160) (b_Inbox_init_0_2)
noncomputable def b_Inbox_init_0_0:ASs:=.cons (.ite (.cmp .Lt (.loc 2 4375936) (.cst (.int 1) 4605568) 4376192) (b_Inbox_init_1_0) (.nil) 4329345) (b_Inbox_init_0_1)
noncomputable def fd_Inbox_init:FD:=⟨269,["self","manifesto","piece_limit","run"],3,[],b_Inbox_init_0_0⟩
noncomputable def b_Inbox_first_hole_2_0:ASs:=.cons (.ret (.loc 2 17155712) 17041024) (.nil)
noncomputable def b_Inbox_first_hole_1_1:ASs:=.cons (.asg (.t0 (.loc 2 21169088)) (.bin .Add (.loc 3 21267968) (.prim .len (.cons (.loc 4 21481792) (.nil)) 21415808 21416320) 21268864) 21170560) (.nil)
noncomputable def b_Inbox_first_hole_1_0:ASs:=.cons (.ite (.cmp .Gt (.loc 3 12830016) (.loc 2 12977856) 12830400) (b_Inbox_first_hole_2_0) (.nil) 12781185) (b_Inbox_first_hole_1_1)
noncomputable def b_Inbox_first_hole_0_2:ASs:=.cons (.ret (.loc 2 25412736) 25298048) (.nil)
noncomputable def b_Inbox_first_hole_0_1:ASs:=.cons (.for (.tup [(3,8586368),(4,8717952)] 8586880) (.sub (.attr (.loc 0 8882304) 48 8882624) (.loc 1 9046720) 8882944) (b_Inbox_first_hole_1_0) 8522115) (b_Inbox_first_hole_0_2)
noncomputable def b_Inbox_first_hole_0_0:ASs:=.cons (.asg (.t0 (.loc 2 4326080)) (.cst (.int 0) 4424640) 4326336) (b_Inbox_first_hole_0_1)
noncomputable def fd_Inbox_first_hole:FD:=⟨278,["self","run","end","offset","octets"],2,[],b_Inbox_first_hole_0_0⟩
noncomputable def b_Inbox_missing_2_0:ASs:=.cons (.ret (.tup (.cons (.loc 1 17172160) (.cons (.loc 2 17254592) (.nil))) 17156352) 17041664) (.nil)
noncomputable def b_Inbox_missing_1_1:ASs:=.cons (.ite (.cmp .Lt (.loc 2 12830016) (.attr (.sub (.attr (.attr (.loc 0 12977920) 46 12978560) 43 12978880) (.loc 1 13306816) 12979200) 34 12979520) 12832064) (b_Inbox_missing_2_0) (.nil) 12781825) (.nil)
noncomputable def b_Inbox_missing_1_0:ASs:=.cons (.asg (.t0 (.loc 2 8586368)) (.meth (.loc 0 8734272) 49 (.cons (.loc 1 8997376) (.nil)) 8734976 8735296) 8587840) (b_Inbox_missing_1_1)
noncomputable def b_Inbox_missing_0_1:ASs:=.cons (.ret (.cst (.none) 21218496) 21103808) (.nil)
noncomputable def b_Inbox_missing_0_0:ASs:=.cons (.for (.loc 1 4391872) (.prim .range (.cons (.prim .len (.cons (.attr (.loc 0 4671552) 48 4671872) (.nil)) 4605696 4606400) (.nil)) 4507136 4508160) (b_Inbox_missing_1_0) 4327683) (b_Inbox_missing_0_1)
noncomputable def fd_Inbox_missing:FD:=⟨286,["self","run","offset"],1,[],b_Inbox_missing_0_0⟩
noncomputable def b_Inbox_whole_0_0:ASs:=.cons (.ret (.cmp .Is (.meth (.loc 0 4441280) 50 (.nil) 4441792 4441920) (.cst (.none) 4737344) 4442432) 4327744) (.nil)
noncomputable def fd_Inbox_whole:FD:=⟨293,["self"],1,[],b_Inbox_whole_0_0⟩
noncomputable def b_Inbox_take_1_0:ASs:=.cons (.ret (.cst (.bool false) 8701440) 8586752) (.nil)
noncomputable def b_Inbox_take_2_0:ASs:=.cons (.ret (.cst (.bool false) 17090048) 16975360) (.nil)
noncomputable def b_Inbox_take_4_2:ASs:=.cons (.asg (.t0 (.loc 8 58983616)) (.cst (.bool true) 59082368) 58984064) (.nil)
noncomputable def b_Inbox_take_4_1:ASs:=.cons (.expr (.call 51 (.cons (.loc 6 54855168) (.cons (.loc 7 54953728) (.cons (.prim .bytes (.cons (.slc (.loc 4 55118400) (.bin .Sub (.loc 7 55216896) (.loc 2 55299392) 55217472) (.bin .Sub (.loc 11 55414400) (.loc 2 55529664) 55414976) 55218368 55120128) (.nil)) 55019712 55021888) (.nil)))) 54789312 54792576) 54792576) (b_Inbox_take_4_2)
noncomputable def b_Inbox_take_4_0:ASs:=.cons (.asg (.t0 (.loc 11 50595072)) (.prim .min (.cons (.loc 9 50776064) (.cons (.loc 5 50891072) (.nil))) 50710144 50710912) 50596224) (b_Inbox_take_4_1)
noncomputable def b_Inbox_take_3_2:ASs:=.cons (.asg (.t0 (.loc 7 67306368)) (.prim .max (.cons (.loc 7 67454400) (.cons (.bin .Add (.loc 9 67520384) (.prim .len (.cons (.loc 10 67717632) (.nil)) 67651840 67652160) 67521088) (.nil))) 67388672 67390080) 67308160) (.nil)
noncomputable def b_Inbox_take_3_1:ASs:=.cons (.expr (.call 51 (.cons (.loc 6 63177984) (.cons (.loc 9 63276736) (.cons (.loc 10 63391744) (.nil)))) 63112128 63113280) 63113280) (b_Inbox_take_3_2)
noncomputable def b_Inbox_take_3_0:ASs:=.cons (.ite (.bop true (.cons (.cmp .Lt (.loc 7 46384192) (.loc 5 46466496) 46384576) (.cons (.cmp .Lt (.loc 7 46598016) (.loc 9 46680448) 46598528) (.nil))) 46385536) (b_Inbox_take_4_0) (.nil) 46335619) (b_Inbox_take_3_1)
noncomputable def b_Inbox_take_5_1:ASs:=.cons (.asg (.t0 (.loc 8 79889344)) (.cst (.bool true) 79988096) 79889792) (.nil)
noncomputable def b_Inbox_take_5_0:ASs:=.cons (.expr (.call 51 (.cons (.loc 6 75760896) (.cons (.loc 7 75859456) (.cons (.prim .bytes (.cons (.slc (.loc 4 76024128) (.bin .Sub (.loc 7 76122624) (.loc 2 76205120) 76123200) (.abs) 76123264 76025024) (.nil)) 75925440 75926784) (.nil)))) 75695040 75697472) 75697472) (b_Inbox_take_5_1)
noncomputable def b_Inbox_take_6_0:ASs:=.cons (.asg (.sub (.attr (.loc 0 88278016) 48 88278336) (.loc 1 88442432) 88278656) (.loc 6 88557632) 88279104) (.nil)
noncomputable def b_Inbox_take_0_10:ASs:=.cons (.ret (.loc 8 92521600) 92406912) (.nil)
noncomputable def b_Inbox_take_0_9:ASs:=.cons (.ite (.loc 8 84067200) (b_Inbox_take_6_0) (.nil) 84019265) (b_Inbox_take_0_10)
noncomputable def b_Inbox_take_0_8:ASs:=.cons (.ite (.cmp .Lt (.loc 7 71484224) (.loc 5 71566528) 71484608) (b_Inbox_take_5_0) (.nil) 71435650) (b_Inbox_take_0_9)
noncomputable def b_Inbox_take_0_7:ASs:=.cons (.for (.tup [(9,42140736),(10,42255744)] 42141056) (.sub (.attr (.loc 0 42370944) 48 42371264) (.loc 1 42535360) 42371584) (b_Inbox_take_3_0) 42076806) (b_Inbox_take_0_8)
noncomputable def b_Inbox_take_0_6:ASs:=.cons (.asg (.t0 (.loc 8 37880512)) (.cst (.bool false) 37979328) 37881024) (b_Inbox_take_0_7)
noncomputable def b_Inbox_take_0_5:ASs:=.cons (.asg (.t0 (.loc 7 33686144)) (.loc 2 33768640) 33686720) (b_Inbox_take_0_6)
noncomputable def b_Inbox_take_0_4:ASs:=.cons (.asg (.t0 (.loc 6 29491968)) (.lst (.nil) 29606976) 29492288) (b_Inbox_take_0_5)
noncomputable def b_Inbox_take_0_3:ASs:=.cons (.asg (.t0 (.loc 5 25297600)) (.bin .Add (.loc 2 25396480) (.prim .len (.cons (.loc 4 25610240) (.nil)) 25544320 25544768) 25397312) 25299008) (b_Inbox_take_0_4)
noncomputable def b_Inbox_take_0_2:ASs:=.cons (.asg (.t0 (.loc 4 21103424)) (.slc (.loc 3 21235072) (.abs) (.attr (.loc 0 21366528) 47 21367296) 21350912 21236288) 21105216) (b_Inbox_take_0_3)
noncomputable def b_Inbox_take_0_1:ASs:=.cons (.ite (.cmp .Gt (.bin .Add (.loc 2 12764224) (.prim .len (.cons (.loc 3 12978048) (.nil)) 12912064 12912576) 12765120) (.attr (.sub (.attr (.attr (.loc 0 13142400) 46 13143040) 43 13143360) (.loc 1 13471296) 13143680) 34 13144000) 12767168) (b_Inbox_take_2_0) (.nil) 12715521) (b_Inbox_take_0_2)
noncomputable def b_Inbox_take_0_0:ASs:=.cons (.ite (.bop false (.cons (.cmp .Lt (.loc 1 4375424) (.cst (.int 0) 4473984) 4375680) (.cons (.cmp .GtE (.loc 1 4556352) (.prim .len (.cons (.attr (.loc 0 4737344) 48 4737664) (.nil)) 4671488 4672192) 4557504) (.cons (.cmp .Lt (.loc 2 4967744) (.cst (.int 0) 5115456) 4968000) (.nil)))) 4378176) (b_Inbox_take_1_0) (.nil) 4326913) (b_Inbox_take_0_1)
noncomputable def fd_Inbox_take:FD:=⟨296,["self","run","offset","octets","piece","end","kept","at","new","start","old","stop"],4,[],b_Inbox_take_0_0⟩
noncomputable def b_Inbox_runs_1_0:ASs:=.cons (.raise 3 none (.txt "run " 13109504 (.fmt (.sub (.loc 1 13191744) (.cst (.int 0) 13273792) 13191936) 13175616 (.txt " has a hole at " 13324032 (.fmt (.sub (.loc 1 13586496) (.cst (.int 1) 13668544) 13586688) 13570368 (.nil))))) 13078912 12879680 12882368 12784064) (.nil)
noncomputable def b_Inbox_runs_3_1:ASs:=.cons (.expr (.lmeth (.loc 3 42206592) .append (.cons (.loc 4 42436672) (.nil)) 42207040 42207360) 42207360) (.nil)
noncomputable def b_Inbox_runs_3_0:ASs:=.cons (.asg (.sub (.attr (.loc 0 38012160) 48 38012480) (.loc 4 38176576) 38012800) (.lst (.nil) 38291648) 38013120) (b_Inbox_runs_3_1)
noncomputable def b_Inbox_runs_2_2:ASs:=.cons (.expr (.lmeth (.loc 2 46335040) .append (.cons (.loc 5 46548800) (.nil)) 46335488 46335872) 46335872) (.nil)
noncomputable def b_Inbox_runs_2_1:ASs:=.cons (.ite (.not (.meth (.sub (.attr (.attr (.loc 0 33867200) 46 33867840) 43 33868160) (.loc 4 34196096) 33868480) 52 (.cons (.loc 5 34360640) (.nil)) 33868800 33869184) 33803648) (b_Inbox_runs_3_0) (.nil) 33753218) (b_Inbox_runs_2_2)
noncomputable def b_Inbox_runs_2_0:ASs:=.cons (.asg (.t0 (.loc 5 29557760)) (.lmeth (.cst (.bytes []) 29672832) .join (.cons (.comp ["offset","octets"] [(".0",.local),("offset",.local),("octets",.local)] [] (.tup [(0,30018432),(1,30150016)] 30018944) (.loc 1 29837504) (.sub (.attr (.loc 0 30314368) 48 30314688) (.loc 4 30478784) 30315008) (.abs) 29823552) (.nil)) 29673152 29676160) 29561472) (b_Inbox_runs_2_1)
noncomputable def b_Inbox_runs_4_0:ASs:=.cons (.raise 4 none (.txt "runs " 54986816 (.fmt (.loc 3 55085568) 55069248 (.txt " are not what the manifesto tells" 55202432 (.nil)))) 54956736 54822464 54825728 54727424) (.nil)
noncomputable def b_Inbox_runs_0_6:ASs:=.cons (.ret (.loc 2 58967296) 58852608) (.nil)
noncomputable def b_Inbox_runs_0_5:ASs:=.cons (.ite (.cmp .Gt (.prim .len (.cons (.loc 3 50578752) (.nil)) 50512768 50513280) (.cst (.int 0) 50742912) 50513536) (b_Inbox_runs_4_0) (.nil) 50467585) (b_Inbox_runs_0_6)
noncomputable def b_Inbox_runs_0_4:ASs:=.cons (.for (.loc 4 25363392) (.prim .range (.cons (.prim .len (.cons (.attr (.loc 0 25643072) 48 25643392) (.nil)) 25577216 25577920) (.nil)) 25478656 25479680) (b_Inbox_runs_2_0) 25298821) (b_Inbox_runs_0_5)
noncomputable def b_Inbox_runs_0_3:ASs:=.cons (.asg (.t0 (.loc 3 21103488)) (.lst (.nil) 21251264) 21103808) (b_Inbox_runs_0_4)
noncomputable def b_Inbox_runs_0_2:ASs:=.cons (.asg (.t0 (.loc 2 16909120)) (.lst (.nil) 17040512) 16909440) (b_Inbox_runs_0_3)
noncomputable def b_Inbox_runs_0_1:ASs:=.cons (.ite (.cmp .IsNot (.loc 1 8569792) (.cst (.none) 8767168) 8570560) (b_Inbox_runs_1_0) (.nil) 8524225) (b_Inbox_runs_0_2)
noncomputable def b_Inbox_runs_0_0:ASs:=.cons (.asg (.t0 (.loc 1 4326144)) (.meth (.loc 0 4441280) 50 (.nil) 4441792 4441920) 4327232) (b_Inbox_runs_0_1)
noncomputable def fd_Inbox_runs:FD:=⟨320,["self","hole","found","broken","run","data"],1,[],b_Inbox_runs_0_0⟩
noncomputable def b_law_draw_0_0:ASs:=.cons (.ret (.bin .Add (.sub (.loc 0 4375488) (.bin .Mod (.loc 1 4457536) (.prim .len (.cons (.loc 0 4589312) (.nil)) 4523456 4523840) 4458304) 4376448) (.bin .Mult (.cst (.int 7919) 4737344) (.bin .FloorDiv (.loc 1 4868736) (.prim .len (.cons (.loc 0 5016960) (.nil)) 4951104 4951488) 4869568) 4738560) 4378112) 4263424) (.nil)
noncomputable def fd_law_draw:FD:=⟨342,["nums","i"],2,[],b_law_draw_0_0⟩
noncomputable def b_law_field_1_0:ASs:=.cons (.ret (.sub (.tup (.cons (.cst (.int 127) 8651968) (.cons (.cst (.int 128) 8734208) (.cons (.cst (.int 255) 8816448) (.cons (.cst (.int 256) 8898688) (.cons (.cst (.int 16384) 8981056) (.cons (.cst (.int 4294967296) 9096512) (.cons (.cst (.int 18446744073709551615) 9294528) (.nil)))))))) 8639232) (.bin .Mod (.bin .FloorDiv (.loc 0 9655168) (.cst (.int 5) 9737408) 9655488) (.cst (.int 7) 9803200) 9655744) 8640000) 8525312) (.nil)
noncomputable def b_law_field_0_1:ASs:=.cons (.ret (.bin .Mod (.bin .FloorDiv (.loc 0 12763904) (.cst (.int 5) 12846144) 12764224) (.cst (.int 300) 12912064) 12764608) 12649920) (.nil)
noncomputable def b_law_field_0_0:ASs:=.cons (.ite (.cmp .Eq (.bin .Mod (.loc 0 4309504) (.cst (.int 5) 4375296) 4309760) (.cst (.int 4) 4457536) 4310080) (b_law_field_1_0) (.nil) 4265473) (b_law_field_0_1)
noncomputable def fd_law_field:FD:=⟨344,["y"],1,[],b_law_field_0_0⟩
noncomputable def b_law_number_1_0:ASs:=.cons (.ret (.lst (.cons (.loc 0 8651840) (.nil)) 8635520) 8520832) (.nil)
noncomputable def b_law_number_0_1:ASs:=.cons (.ret (.bin .Add (.lst (.cons (.bin .Add (.bin .Mod (.loc 0 12780352) (.cst (.int 128) 12846272) 12780736) (.cst (.int 128) 12944960) 12781120) (.nil)) 12764800) (.call 53 (.cons (.bin .FloorDiv (.loc 0 13257344) (.cst (.int 128) 13339712) 13257792) (.nil)) 13060608 13061248) 12766336) 12651648) (.nil)
noncomputable def b_law_number_0_0:ASs:=.cons (.ite (.cmp .Lt (.loc 0 4309504) (.cst (.int 128) 4375424) 4309888) (b_law_number_1_0) (.nil) 4260993) (b_law_number_0_1)
noncomputable def fd_law_number:FD:=⟨348,["n"],1,[],b_law_number_0_0⟩
noncomputable def b_law_text_0_0:ASs:=.cons (.ret (.bin .Add (.call 53 (.cons (.prim .len (.cons (.loc 0 4638784) (.nil)) 4572800 4573312) (.nil)) 4375936 4376768) (.prim .list (.cons (.loc 0 4901952) (.nil)) 4819584 4820096) 4377728) 4263040) (.nil)
noncomputable def fd_law_text:FD:=⟨352,["octets"],1,[],b_law_text_0_0⟩
noncomputable def b_law_octets_1_4:ASs:=.cons (.expr (.lmeth (.loc 1 33686208) .extend (.cons (.call 54 (.cons (.loc 6 34031680) (.nil)) 33867520 33867904) (.nil)) 33686656 33687744) 33687744) (.nil)
noncomputable def b_law_octets_1_3:ASs:=.cons (.expr (.lmeth (.loc 1 29491904) .extend (.cons (.call 54 (.cons (.loc 5 29837312) (.nil)) 29673216 29673536) (.nil)) 29492352 29493376) 29493376) (b_law_octets_1_4)
noncomputable def b_law_octets_1_2:ASs:=.cons (.expr (.lmeth (.loc 1 25297600) .extend (.cons (.lst (.cons (.bin .Mod (.loc 4 25495104) (.cst (.int 256) 25626560) 25495488) (.cons (.bin .Mod (.bin .FloorDiv (.loc 4 25708928) (.cst (.int 256) 25856832) 25709376) (.cst (.int 256) 25955520) 25709760) (.cons (.bin .Mod (.bin .FloorDiv (.loc 4 26037888) (.cst (.int 65536) 26185920) 26038464) (.cst (.int 256) 26317376) 26038848) (.cons (.bin .FloorDiv (.loc 4 26399744) (.cst (.int 16777216) 26547968) 26400512) (.nil))))) 25483072) (.nil)) 25298048 25302912) 25302912) (b_law_octets_1_3)
noncomputable def b_law_octets_1_1:ASs:=.cons (.expr (.lmeth (.loc 1 21103296) .extend (.cons (.call 53 (.cons (.loc 3 21481664) (.nil)) 21284736 21285120) (.nil)) 21103744 21104960) 21104960) (b_law_octets_1_2)
noncomputable def b_law_octets_1_0:ASs:=.cons (.expr (.lmeth (.loc 1 16908992) .append (.cons (.loc 2 17090048) (.nil)) 16909440 16909888) 16909888) (b_law_octets_1_1)
noncomputable def b_law_octets_0_3:ASs:=.cons (.ret (.loc 1 37929856) 37815168) (.nil)
noncomputable def b_law_octets_0_2:ASs:=.cons (.for (.tup [(2,12714816),(3,12829888),(4,12928640),(5,13043648),(6,13125952)] 12716352) (.sub (.loc 0 13257472) (.cst (.int 4) 13323136) 13257664) (b_law_octets_1_0) 12650693) (b_law_octets_0_3)
noncomputable def b_law_octets_0_1:ASs:=.cons (.asg (.t0 (.loc 1 8454592)) (.bin .Add (.bin .Add (.loc 1 8553280) (.call 54 (.cons (.sub (.loc 0 8816448) (.cst (.int 2) 8882112) 8816640) (.nil)) 8652352 8652864) 8554560) (.call 53 (.cons (.prim .len (.cons (.sub (.loc 0 9244096) (.cst (.int 4) 9309760) 9244288) (.nil)) 9178304 9178816) (.nil)) 8981440 8982272) 8556288) 8457984) (b_law_octets_0_2)
noncomputable def b_law_octets_0_0:ASs:=.cons (.asg (.t0 (.loc 1 4260288)) (.bin .Add (.bin .Add (.call 53 (.cons (.sub (.loc 0 4556352) (.cst (.int 0) 4622016) 4556544) (.nil)) 4359488 4360000) (.call 53 (.cons (.sub (.loc 0 4918208) (.cst (.int 1) 4983872) 4918400) (.nil)) 4721344 4721856) 4361408) (.call 53 (.cons (.sub (.loc 0 5280064) (.cst (.int 3) 5345728) 5280256) (.nil)) 5083200 5083712) 4362816) 4264512) (b_law_octets_0_1)
noncomputable def fd_law_octets:FD:=⟨354,["row","out","level","size","check","low","high"],1,[],b_law_octets_0_0⟩
noncomputable def b_law_made_0_1:ASs:=.cons (.ret (.new 22 (.cons (.sub (.loc 0 8734208) (.cst (.int 0) 8799872) 8734400) (.cons (.sub (.loc 0 8865792) (.cst (.int 1) 8931456) 8865984) (.cons (.sub (.loc 0 8997376) (.cst (.int 2) 9063040) 8997568) (.cons (.sub (.loc 0 9128960) (.cst (.int 3) 9194624) 9129152) (.cons (.loc 1 9260672) (.nil)))))) 8570112 8572608) 8457920) (.nil)
noncomputable def b_law_made_0_0:ASs:=.cons (.asg (.t0 (.loc 1 4260416)) (.comp ["run"] [(".0",.local),("run",.local),("RunInfo",.globalImplicit)] [] (.loc 0 5263616) (.new 20 (.cons (.sub (.loc 0 4539904) (.cst (.int 0) 4605568) 4540096) (.cons (.sub (.loc 0 4671488) (.cst (.int 1) 4737152) 4671680) (.cons (.sub (.loc 0 4803072) (.cst (.int 2) 4868736) 4803264) (.cons (.sub (.loc 0 4934656) (.cst (.int 3) 5000320) 4934848) (.cons (.sub (.loc 0 5066240) (.cst (.int 4) 5131904) 5066432) (.nil)))))) 4408576 4411136) (.sub (.loc 0 5378752) (.cst (.int 4) 5444416) 5378944) (.abs) 4395968) 4264896) (b_law_made_0_1)
noncomputable def fd_law_made:FD:=⟨364,["row","infos"],1,[],b_law_made_0_0⟩
noncomputable def b_law_read_1_0:ASs:=.cons (.ret (.call 55 (.cons (.loc 0 8915200) (.nil)) 8636352 8636736) 8522048) (.nil)
noncomputable def b_law_read_0_0:ASs:=.cons (.try (b_law_read_1_0) [⟨4,.none,12764288,17024192,16909504,12649665⟩] 4261059) (.nil)
noncomputable def fd_law_read:FD:=⟨367,["data"],1,[],b_law_read_0_0⟩
noncomputable def b_law_why_1_0:ASs:=.cons (.expr (.call 55 (.cons (.loc 0 8800064) (.nil)) 8521216 8521600) 8521600) (.nil)
noncomputable def b_law_why_0_1:ASs:=.cons (.ret (.cst (.str "whole") 29541504) 29426816) (.nil)
noncomputable def b_law_why_0_0:ASs:=.cons (.try (b_law_why_1_0) [⟨3,.str "short",12764544,17024384,16909696,12649857⟩,⟨4,.str "corrupt",21152896,25413120,25298432,21038593⟩] 4261381) (b_law_why_0_1)
noncomputable def fd_law_why:FD:=⟨372,["data"],1,[],b_law_why_0_0⟩
noncomputable def b_law_runs_1_0:ASs:=.cons (.ret (.meth (.loc 0 8635520) 43 (.nil) 8635840 8635968) 8521280) (.nil)
noncomputable def b_law_runs_0_0:ASs:=.cons (.try (b_law_runs_1_0) [⟨3,.str "short",12764544,17024384,16909696,12649857⟩,⟨4,.str "corrupt",21152896,25413120,25298432,21038593⟩] 4261381) (.nil)
noncomputable def fd_law_runs:FD:=⟨380,["box"],1,[],b_law_runs_0_0⟩
noncomputable def b_law_hole_2_0:ASs:=.cons (.ret (.tup (.cons (.loc 1 12912064) (.cons (.lmeth (.sub (.loc 0 12994432) (.loc 1 13092992) 12994752) .index (.cons (.cst (.bool false) 13274048) (.nil)) 12995136 12995584) (.nil))) 12897344) 12782656) (.nil)
noncomputable def b_law_hole_1_0:ASs:=.cons (.ite (.cmp .In (.cst (.bool false) 8569856) (.sub (.loc 0 8717888) (.loc 1 8816448) 8718208) 8570752) (b_law_hole_2_0) (.nil) 8522817) (.nil)
noncomputable def b_law_hole_0_1:ASs:=.cons (.ret (.cst (.none) 16958400) 16843712) (.nil)
noncomputable def b_law_hole_0_0:ASs:=.cons (.for (.loc 1 4326080) (.prim .range (.cons (.prim .len (.cons (.loc 0 4605824) (.nil)) 4539904 4540352) (.nil)) 4441344 4442112) (b_law_hole_1_0) 4262978) (b_law_hole_0_1)
noncomputable def fd_law_hole:FD:=⟨387,["flags","run"],1,[],b_law_hole_0_0⟩
noncomputable def b_law_give_3_1:ASs:=.cons (.asg (.t0 (.loc 6 25429184)) (.cst (.bool true) 25527936) 25429632) (.nil)
noncomputable def b_law_give_3_0:ASs:=.cons (.asg (.sub (.sub (.loc 1 21235008) (.loc 3 21333568) 21235328) (.loc 7 21415936) 21235776) (.cst (.bool true) 21563904) 21236224) (b_law_give_3_1)
noncomputable def b_law_give_2_0:ASs:=.cons (.ite (.not (.sub (.sub (.loc 1 17090048) (.loc 3 17188608) 17090368) (.loc 7 17270976) 17090816) 17025280) (b_law_give_3_0) (.nil) 16975490) (.nil)
noncomputable def b_law_give_1_0:ASs:=.cons (.for (.loc 7 12780608) (.prim .range (.cons (.loc 4 13027392) (.cons (.bin .Add (.loc 4 13158976) (.prim .min (.cons (.loc 2 13372736) (.cons (.prim .len (.cons (.loc 5 13553728) (.nil)) 13487744 13488256) (.nil))) 13306816 13308096) 13160640) (.nil))) 12928640 12931328) (b_law_give_2_0) 12715651) (.nil)
noncomputable def b_law_give_0_2:ASs:=.cons (.ret (.cmp .Eq (.meth (.loc 0 29541248) 56 (.cons (.loc 3 29689280) (.cons (.loc 4 29771712) (.cons (.loc 5 29903296) (.nil)))) 29541568 29542912) (.loc 6 30084032) 29543360) 29428672) (.nil)
noncomputable def b_law_give_0_1:ASs:=.cons (.ite (.bop true (.cons (.cmp .Lt (.loc 3 8503936) (.prim .len (.cons (.loc 1 8668544) (.nil)) 8602624 8603072) 8504768) (.cons (.cmp .LtE (.bin .Add (.loc 4 8849536) (.prim .len (.cons (.loc 5 9063360) (.nil)) 8997376 8997888) 8850432) (.prim .len (.cons (.sub (.loc 1 9310016) (.loc 3 9408576) 9310336) (.nil)) 9244096 9244864) 8851648) (.nil))) 8507584) (b_law_give_1_0) (.nil) 8455812) (b_law_give_0_2)
noncomputable def b_law_give_0_0:ASs:=.cons (.asg (.t0 (.loc 6 4260288)) (.cst (.bool false) 4359104) 4260800) (b_law_give_0_1)
noncomputable def fd_law_give:FD:=⟨392,["box","flags","limit","run","offset","octets","new","place"],6,[],b_law_give_0_0⟩
noncomputable def b_law_order_1_0:ASs:=.cons (.expr (.lmeth (.cel 3 16909120) .extend (.cons (.prim .list (.cons (.prim .range (.cons (.loc 4 17303872) (.cons (.cel 0 17419008) (.cons (.loc 2 17534080) (.nil)))) 17205184 17206464) (.nil)) 17122880 17124608) (.nil)) 16909568 16911680) 16911680) (.nil)
noncomputable def b_law_order_2_0:ASs:=.cons (.asg (.t0 (.cel 3 25297728)) (.comp ["i","order","count"] [(".0",.local),("i",.local),("count",.free),("order",.free)] [(1,3),(2,0)] (.loc 0 25856704) (.sub (.cel 1 25445760) (.bin .Sub (.bin .Sub (.cel 2 25544448) (.cst (.int 1) 25675776) 25544704) (.loc 0 25741568) 25544960) 25446720) (.prim .range (.cons (.cel 0 26037888) (.nil)) 25939200 25939648) (.abs) 25431808) 25300736) (.nil)
noncomputable def b_law_order_0_4:ASs:=.cons (.ret (.cel 3 29541376) 29426688) (.nil)
noncomputable def b_law_order_0_3:ASs:=.cons (.ite (.cmp .Gt (.bin .Mod (.loc 1 21086720) (.cst (.int 4) 21152512) 21086976) (.cst (.int 1) 21218304) 21087232) (b_law_order_2_0) (.nil) 21040897) (b_law_order_0_4)
noncomputable def b_law_order_0_2:ASs:=.cons (.for (.loc 4 12714816) (.prim .range (.cons (.loc 2 12961472) (.nil)) 12862848 12863232) (b_law_order_1_0) 12651841) (b_law_order_0_3)
noncomputable def b_law_order_0_1:ASs:=.cons (.asg (.t0 (.cel 3 8454720)) (.lst (.nil) 8586112) 8455040) (b_law_order_0_2)
noncomputable def b_law_order_0_0:ASs:=.cons (.asg (.t0 (.loc 2 4260352)) (.sub (.tup (.cons (.cst (.int 1) 4391744) (.cons (.cst (.int 3) 4441088) (.cons (.cst (.int 1) 4490432) (.cons (.cst (.int 5) 4539776) (.nil))))) 4376000) (.bin .Mod (.loc 1 4589120) (.cst (.int 4) 4654912) 4589376) 4376448) 4261760) (b_law_order_0_1)
noncomputable def fd_law_order:FD:=⟨400,["count","o","step","order","first"],2,[],b_law_order_0_0⟩
noncomputable def b_law_whole_1_0:ASs:=.cons (.ret (.cst (.none) 17024192) 16909504) (.nil)
noncomputable def b_law_whole_2_0:ASs:=.cons (.ret (.cst (.none) 29607104) 29492416) (.nil)
noncomputable def b_law_whole_0_5:ASs:=.cons (.ret (.loc 3 33735616) 33620928) (.nil)
noncomputable def b_law_whole_0_4:ASs:=.cons (.ite (.bop false (.cons (.cmp .Is (.loc 3 25281216) (.cst (.none) 25412800) 25281728) (.cons (.cmp .NotEq (.meth (.loc 3 25544384) 44 (.nil) 25544640 25544768) (.loc 0 25774592) 25545216) (.cons (.cmp .NotEq (.meth (.loc 1 25889792) 44 (.nil) 25890048 25890176) (.loc 0 26120000) 25890624) (.nil)))) 25284416) (b_law_whole_2_0) (.nil) 25232577) (b_law_whole_0_5)
noncomputable def b_law_whole_0_3:ASs:=.cons (.asg (.t0 (.loc 3 21037568)) (.call 60 (.cons (.loc 2 21317312) (.nil)) 21153024 21153536) 21038848) (b_law_whole_0_4)
noncomputable def b_law_whole_0_2:ASs:=.cons (.ite (.bop false (.cons (.cmp .NotEq (.prim .list (.cons (.loc 2 12780672) (.nil)) 12698304 12698816) (.call 59 (.cons (.loc 0 13158784) (.nil)) 12961920 12962240) 12700096) (.cons (.not (.isb (.loc 2 13537280) 13356608 13668800 13357568) 13292032) (.nil))) 12702208) (b_law_whole_1_0) (.nil) 12649665) (b_law_whole_0_3)
noncomputable def b_law_whole_0_1:ASs:=.cons (.asg (.t0 (.loc 2 8454784)) (.meth (.loc 1 8602688) 58 (.nil) 8603136 8603264) 8455808) (b_law_whole_0_2)
noncomputable def b_law_whole_0_0:ASs:=.cons (.asg (.t0 (.loc 1 4260352)) (.call 57 (.cons (.loc 0 4539904) (.nil)) 4375808 4376128) 4261440) (b_law_whole_0_1)
noncomputable def fd_law_whole:FD:=⟨408,["row","made","octets","back"],1,[],b_law_whole_0_0⟩
noncomputable def b_law_1_0:ASs:=.cons (.asg (.t0 (.loc 1 12714752)) (.lst (.cons (.cst (.int 0) 12846144) (.nil)) 12829824) 12715136) (.nil)
noncomputable def b_law_3_0:ASs:=.cons (.asg (.t0 (.loc 12 67306688)) (.slc (.loc 12 67471168) (.abs) (.cst (.int 1) 67618816) 67602432 67471424) 67307584) (.nil)
noncomputable def b_law_4_0:ASs:=.cons (.asg (.t0 (.loc 14 84083648)) (.bin .Add (.loc 14 84182336) (.bin .Mult (.cst (.bytes [107]) 84281088) (.cst (.int 130) 84396160) 84281472) 84183168) 84084864) (.nil)
noncomputable def b_law_2_6:ASs:=.cons (.expr (.lmeth (.loc 10 92406592) .append (.cons (.tup (.cons (.bin .Mod (.bin .Add (.loc 3 92653056) (.loc 11 92718976) 92653440) (.cst (.int 12) 92834048) 92637440) (.cons (.prim .len (.cons (.loc 12 92965952) (.nil)) 92899904 92900480) (.cons (.loc 13 93130304) (.cons (.loc 14 93245312) (.cons (.bin .Mult (.cst (.bytes [122]) 93327616) (.bin .Add (.cst (.int 1) 93459008) (.bin .Mod (.loc 11 93524928) (.cst (.int 2) 93623488) 93525184) 93459648) 93328640) (.nil)))))) 92624192) (.nil)) 92407040 92411264) 92411264) (.nil)
noncomputable def b_law_2_5:ASs:=.cons (.expr (.lmeth (.loc 9 88212480) .append (.cons (.loc 12 88475584) (.nil)) 88212928 88213504) 88213504) (b_law_2_6)
noncomputable def b_law_2_4:ASs:=.cons (.ite (.cmp .Eq (.loc 11 79872896) (.loc 8 79988032) 79873344) (b_law_4_0) (.nil) 79825025) (b_law_2_5)
noncomputable def b_law_2_3:ASs:=.cons (.asg (.t0 (.loc 14 75629248)) (.bin .Mult (.prim .bytes (.cons (.lst (.cons (.bin .Mod (.loc 11 75843072) (.cst (.int 256) 75941760) 75843456) (.nil)) 75827136) (.nil)) 75728064 75728896) (.bin .Mod (.loc 11 76089792) (.cst (.int 3) 76188352) 76090048) 75729664) 75631360) (b_law_2_4)
noncomputable def b_law_2_2:ASs:=.cons (.asg (.t0 (.loc 13 71435072)) (.bin .Add (.bin .Add (.bin .Mult (.prim .sum (.cons (.loc 12 71632576) (.nil)) 71566528 71567104) (.cst (.int 251) 71813248) 71567488) (.bin .Mult (.prim .len (.cons (.loc 12 71977984) (.nil)) 71911936 71912512) (.cst (.int 65537) 72158784) 71913024) 71568960) (.cst (.int 7) 72290112) 71569216) 71438144) (b_law_2_3)
noncomputable def b_law_2_1:ASs:=.cons (.ite (.cmp .Gt (.bin .Mod (.bin .Add (.loc 11 63112128) (.loc 3 63210688) 63112384) (.cst (.int 3) 63292928) 63096320) (.cst (.int 0) 63358720) 63096576) (b_law_3_0) (.nil) 63047745) (b_law_2_2)
noncomputable def b_law_2_0:ASs:=.cons (.asg (.t0 (.loc 12 58852288)) (.prim .bytes (.cons (.lst (.cons (.bin .Mod (.bin .Add (.loc 3 59147968) (.bin .Mult (.cst (.int 37) 59213824) (.loc 11 59296128) 59214208) 59148672) (.cst (.int 256) 59411264) 59132736) (.cons (.bin .Mod (.bin .Add (.cel 4 59509824) (.bin .Mult (.cst (.int 11) 59575680) (.loc 11 59657984) 59576064) 59510528) (.cst (.int 256) 59773120) 59494592) (.nil))) 59117824) (.nil)) 59016640 59019584) 58855744) (b_law_2_1)
noncomputable def b_law_5_0:ASs:=.cons (.ret (.cst (.bool false) 121881856) 121767168) (.nil)
noncomputable def b_law_7_0:ASs:=.cons (.ret (.cst (.bool false) 138724864) 138610176) (.nil)
noncomputable def b_law_6_0:ASs:=.cons (.ite (.cmp .NotEq (.call 64 (.cons (.slc (.loc 20 134547072) (.abs) (.bin .Mod (.bin .FloorDiv (.loc 5 134678336) (.cst (.int 2) 134760576) 134678656) (.prim .len (.cons (.loc 20 134892480) (.nil)) 134826496 134827008) 134679552) 134663168 134548544) (.nil)) 134399168 134401152) (.cst (.str "short") 135106368) 134401856) (b_law_7_0) (.nil) 134350337) (.nil)
noncomputable def b_law_9_0:ASs:=.cons (.ret (.cst (.bool false) 147047680) 146932992) (.nil)
noncomputable def b_law_8_0:ASs:=.cons (.ite (.cmp .NotEq (.call 64 (.cons (.bin .Add (.loc 20 142902784) (.prim .bytes (.cons (.lst (.cons (.bin .Mod (.loc 5 143165632) (.cst (.int 256) 143231552) 143166016) (.nil)) 143149696) (.nil)) 143050752 143051456) 142904000) (.nil)) 142754880 142756608) (.cst (.str "corrupt") 143396416) 142757440) (b_law_9_0) (.nil) 142673153) (.nil)
noncomputable def b_law_10_0:ASs:=.cons (.ret (.cst (.bool false) 163824896) 163710208) (.nil)
noncomputable def b_law_12_0:ASs:=.cons (.asg (.t0 (.loc 26 193135616)) (.bin .Add (.prim .bytes (.cons (.lst (.cons (.bin .Mod (.bin .Add (.bin .Add (.sub (.loc 26 193382336) (.cst (.int 0) 193464384) 193382528) (.cst (.int 1) 193546624) 193382784) (.bin .Mod (.loc 5 193612416) (.cst (.int 255) 193678336) 193612800) 193383424) (.cst (.int 256) 193793472) 193367488) (.nil)) 193351168) (.nil)) 193250816 193252928) (.slc (.loc 26 193925120) (.cst (.int 1) 194007168) (.abs) 194007232 193925376) 193253632) 193138944) (.nil)
noncomputable def b_law_14_0:ASs:=.cons (.ret (.cst (.bool false) 205899520) 205784832) (.nil)
noncomputable def b_law_13_0:ASs:=.cons (.ite (.not (.call 68 (.cons (.loc 21 201803776) (.cons (.loc 22 201886144) (.cons (.loc 7 202001280) (.cons (.loc 11 202116288) (.cons (.cst (.int 1) 202198400) (.cons (.slc (.loc 26 202247936) (.cst (.int 1) 202329984) (.abs) 202330048 202248192) (.nil))))))) 201639680 201642048) 201576512) (b_law_14_0) (.nil) 201524993) (.nil)
noncomputable def b_law_15_0:ASs:=.cons (.ret (.cst (.bool false) 214222336) 214107648) (.nil)
noncomputable def b_law_16_0:ASs:=.cons (.ret (.cst (.bool false) 222610944) 222496256) (.nil)
noncomputable def b_law_18_0:ASs:=.cons (.ret (.cst (.bool false) 235259648) 235144960) (.nil)
noncomputable def b_law_19_0:ASs:=.cons (.ret (.cst (.bool false) 243648256) 243533568) (.nil)
noncomputable def b_law_20_0:ASs:=.cons (.ret (.cst (.bool false) 252036864) 251922176) (.nil)
noncomputable def b_law_21_0:ASs:=.cons (.ret (.cst (.bool false) 260425472) 260310784) (.nil)
noncomputable def b_law_17_3:ASs:=.cons (.ite (.not (.call 68 (.cons (.loc 21 256329728) (.cons (.loc 22 256412096) (.cons (.loc 7 256527232) (.cons (.bin .Add (.cel 6 256642368) (.loc 25 256773696) 256642624) (.cons (.cst (.int 0) 256823040) (.cons (.cst (.bytes [97]) 256872576) (.nil))))))) 256165632 256168128) 256102592) (b_law_21_0) (.nil) 256050945) (.nil)
noncomputable def b_law_17_2:ASs:=.cons (.ite (.not (.call 68 (.cons (.loc 21 247941120) (.cons (.loc 22 248023488) (.cons (.loc 7 248138624) (.cons (.loc 11 248253632) (.cons (.cst (.int 0) 248335744) (.cons (.bin .Add (.loc 26 248385280) (.cst (.bytes [122]) 248500416) 248385728) (.nil))))))) 247777024 247779584) 247714048) (b_law_20_0) (.nil) 247662337) (b_law_17_3)
noncomputable def b_law_17_1:ASs:=.cons (.ite (.not (.call 68 (.cons (.loc 21 239552512) (.cons (.loc 22 239634880) (.cons (.loc 7 239750016) (.cons (.loc 11 239865024) (.cons (.prim .len (.cons (.loc 26 240013120) (.nil)) 239947264 239947648) (.cons (.cst (.bytes [97]) 240128256) (.nil))))))) 239388416 239391040) 239325504) (b_law_19_0) (.nil) 239273729) (b_law_17_2)
noncomputable def b_law_17_0:ASs:=.cons (.ite (.not (.call 68 (.cons (.loc 21 231163904) (.cons (.loc 22 231246272) (.cons (.loc 7 231361408) (.cons (.loc 11 231476416) (.cons (.cst (.int 0) 231558528) (.cons (.loc 26 231608064) (.nil))))))) 230999808 231001920) 230936384) (b_law_18_0) (.nil) 230885121) (b_law_17_1)
noncomputable def b_law_23_0:ASs:=.cons (.ret (.cst (.bool false) 273008384) 272893696) (.nil)
noncomputable def b_law_22_0:ASs:=.cons (.ite (.bop false (.cons (.cmp .NotEq (.meth (.loc 21 268682368) 50 (.nil) 268682880 268683008) (.call 69 (.cons (.loc 22 269126592) (.nil)) 268962368 268962816) 268684288) (.cons (.cmp .NotEq (.call 70 (.cons (.loc 21 269455424) (.nil)) 269291328 269291648) (.cst (.str "short") 269587264) 269292352) (.nil))) 268686144) (b_law_23_0) (.nil) 268633857) (.nil)
noncomputable def b_law_11_7:ASs:=.cons (.ite (.cmp .Eq (.loc 25 264422144) (.bin .Mod (.loc 3 264504384) (.bin .Sub (.cel 6 264586880) (.cst (.int 1) 264718208) 264587136) 264505280) 264423360) (b_law_22_0) (.nil) 264374018) (.nil)
noncomputable def b_law_11_6:ASs:=.cons (.ite (.cmp .Eq (.bin .Mod (.bin .Add (.loc 25 226689856) (.cel 4 226755648) 226690112) (.cst (.int 9) 226837888) 226674048) (.cst (.int 0) 226920128) 226674368) (b_law_17_0) (.nil) 226625288) (b_law_11_7)
noncomputable def b_law_11_5:ASs:=.cons (.ite (.bop true (.cons (.cmp .Gt (.prim .len (.cons (.loc 26 218350784) (.nil)) 218284928 218285312) (.cst (.int 1) 218482176) 218285568) (.cons (.not (.call 68 (.cons (.loc 21 218827712) (.cons (.loc 22 218910080) (.cons (.loc 7 219025216) (.cons (.loc 11 219140224) (.cons (.cst (.int 1) 219222336) (.cons (.slc (.loc 26 219271872) (.cst (.int 1) 219353920) (.abs) 219353984 219272128) (.nil))))))) 218663616 218665984) 218600448) (.nil))) 218289216) (b_law_16_0) (.nil) 218236417) (b_law_11_6)
noncomputable def b_law_11_4:ASs:=.cons (.ite (.not (.call 68 (.cons (.loc 21 210126592) (.cons (.loc 22 210208960) (.cons (.loc 7 210324096) (.cons (.loc 11 210439104) (.cons (.cst (.int 0) 210521216) (.cons (.loc 26 210570752) (.nil))))))) 209962496 209964608) 209899072) (b_law_15_0) (.nil) 209847809) (b_law_11_5)
noncomputable def b_law_11_3:ASs:=.cons (.ite (.bop true (.cons (.cmp .Gt (.prim .len (.cons (.loc 26 197379264) (.nil)) 197313408 197313792) (.cst (.int 1) 197510656) 197314048) (.cons (.cmp .Eq (.bin .Mod (.bin .Add (.loc 11 197625920) (.cel 4 197724480) 197626176) (.cst (.int 2) 197806720) 197610112) (.cst (.int 0) 197888960) 197610432) (.nil))) 197315520) (b_law_13_0) (.nil) 197265154) (b_law_11_4)
noncomputable def b_law_11_2:ASs:=.cons (.ite (.cmp .In (.loc 11 188924800) (.loc 23 189040128) 188925440) (b_law_12_0) (.nil) 188879105) (b_law_11_3)
noncomputable def b_law_11_1:ASs:=.cons (.asg (.t0 (.loc 26 184681216)) (.sub (.loc 9 184796608) (.loc 11 184944320) 184796928) 184682240) (b_law_11_2)
noncomputable def b_law_11_0:ASs:=.cons (.asg (.t0 (.loc 11 180486848)) (.sub (.loc 24 180585664) (.loc 25 180684096) 180585856) 180487552) (b_law_11_1)
noncomputable def b_law_24_0:ASs:=.cons (.ret (.cst (.bool false) 281265408) 281150720) (.nil)
noncomputable def b_law_26_0:ASs:=.cons (.ret (.cst (.bool false) 293914112) 293799424) (.nil)
noncomputable def b_law_28_0:ASs:=.cons (.ret (.cst (.bool false) 319145728) 319031040) (.nil)
noncomputable def b_law_27_2:ASs:=.cons (.ite (.bop true (.cons (.cmp .NotIn (.loc 27 314819776) (.loc 23 315017280) 314820672) (.cons (.not (.call 68 (.cons (.loc 21 315444736) (.cons (.loc 22 315527104) (.cons (.loc 7 315642240) (.cons (.loc 27 315757312) (.cons (.cst (.int 0) 315855808) (.cons (.sub (.loc 9 315905600) (.loc 27 316053376) 315905984) (.nil))))))) 315280640 315283456) 315217920) (.nil))) 314824768) (b_law_28_0) (.nil) 314771201) (.nil)
noncomputable def b_law_27_1:ASs:=.cons (.asg (.t0 (.loc 27 310576128)) (.bin .Mod (.bin .Add (.loc 11 310707648) (.cst (.int 1) 310806208) 310707904) (.cel 6 310888704) 310692096) 310577408) (b_law_27_2)
noncomputable def b_law_27_0:ASs:=.cons (.asg (.sub (.loc 22 306381888) (.loc 11 306480448) 306382208) (.bin .Mult (.lst (.cons (.cst (.bool false) 306612160) (.nil)) 306595840) (.prim .len (.cons (.sub (.loc 9 306826176) (.loc 11 306973888) 306826496) (.nil)) 306760064 306761024) 306597184) 306384192) (b_law_27_1)
noncomputable def b_law_29_0:ASs:=.cons (.ret (.cst (.bool false) 327468544) 327353856) (.nil)
noncomputable def b_law_31_0:ASs:=.cons (.ret (.cst (.bool false) 344311552) 344196864) (.nil)
noncomputable def b_law_33_0:ASs:=.cons (.ret (.cst (.bool false) 356960256) 356845568) (.nil)
noncomputable def b_law_34_0:ASs:=.cons (.ret (.cst (.bool false) 365348864) 365234176) (.nil)
noncomputable def b_law_32_1:ASs:=.cons (.ite (.bop true (.cons (.cmp .Eq (.loc 28 361022720) (.bin .Sub (.prim .len (.cons (.loc 23 361171072) (.nil)) 361105088 361105600) (.cst (.int 1) 361335232) 361105856) 361023936) (.cons (.cmp .NotEq (.meth (.loc 21 361434048) 50 (.nil) 361434560 361434688) (.call 69 (.cons (.loc 22 361878272) (.nil)) 361714048 361714496) 361435968) (.nil))) 361026368) (b_law_34_0) (.nil) 360974337) (.nil)
noncomputable def b_law_32_0:ASs:=.cons (.ite (.not (.call 68 (.cons (.loc 21 352864512) (.cons (.loc 22 352946880) (.cons (.loc 7 353062016) (.cons (.loc 11 353177024) (.cons (.loc 29 353259456) (.cons (.slc (.sub (.loc 9 353391168) (.loc 11 353538880) 353391488) (.loc 29 353621312) (.abs) 353621376 353392064) (.nil))))))) 352700416 352704000) 352638464) (b_law_33_0) (.nil) 352585729) (b_law_32_1)
noncomputable def b_law_30_2:ASs:=.cons (.for (.loc 29 348390784) (.prim .range (.cons (.cst (.int 0) 348653632) (.cons (.prim .len (.cons (.sub (.loc 9 348769216) (.loc 11 348916928) 348769536) (.nil)) 348703104 348704064) (.cons (.loc 7 349032192) (.nil)))) 348555200 348557120) (b_law_32_0) 348325892) (.nil)
noncomputable def b_law_30_1:ASs:=.cons (.ite (.bop true (.cons (.cmp .Eq (.loc 28 339985408) (.bin .Sub (.prim .len (.cons (.loc 23 340133760) (.nil)) 340067776 340068288) (.cst (.int 1) 340297920) 340068544) 339986624) (.cons (.cmp .NotEq (.meth (.loc 21 340396736) 50 (.nil) 340397248 340397376) (.tup (.cons (.sub (.loc 23 340692992) (.cst (.int 0) 340807808) 340693184) (.cons (.cst (.int 0) 340873600) (.nil))) 340677056) 340398528) (.nil))) 339988928) (b_law_31_0) (.nil) 339937025) (b_law_30_2)
noncomputable def b_law_30_0:ASs:=.cons (.asg (.t0 (.loc 11 335741888)) (.sub (.loc 23 335840768) (.bin .Sub (.bin .Sub (.prim .len (.cons (.loc 23 336021696) (.nil)) 335955712 335956224) (.cst (.int 1) 336185856) 335956480) (.loc 28 336251648) 335956736) 335842112) 335743808) (b_law_30_1)
noncomputable def b_law_25_4:ASs:=.cons (.for (.loc 28 331547456) (.prim .range (.cons (.prim .len (.cons (.loc 23 331794496) (.nil)) 331728512 331729024) (.nil)) 331629952 331630784) (b_law_30_0) 331483144) (.nil)
noncomputable def b_law_25_3:ASs:=.cons (.ite (.cmp .NotEq (.meth (.loc 21 323142528) 50 (.nil) 323143040 323143168) (.tup (.cons (.sub (.loc 23 323438784) (.cst (.int 0) 323553600) 323438976) (.cons (.cst (.int 0) 323619392) (.nil))) 323422848) 323144320) (b_law_29_0) (.nil) 323094017) (b_law_25_4)
noncomputable def b_law_25_2:ASs:=.cons (.for (.loc 11 302187456) (.loc 23 302302784) (b_law_27_0) 302122756) (b_law_25_3)
noncomputable def b_law_25_1:ASs:=.cons (.asg (.t0 (.loc 23 297927552)) (.prim .sorted (.cons (.loc 23 298190720) (.nil)) 298075584 298076096) 297928640) (b_law_25_2)
noncomputable def b_law_25_0:ASs:=.cons (.ite (.cmp .NotEq (.call 70 (.cons (.loc 21 289752576) (.nil)) 289588480 289588800) (.cst (.str "corrupt") 289884544) 289589632) (b_law_26_0) (.nil) 289539585) (b_law_25_1)
noncomputable def b_law_0_28:ASs:=.cons (.ret (.cmp .Eq (.call 70 (.cons (.loc 21 369444352) (.nil)) 369280256 369280576) (.loc 9 369576256) 369281344) 369166656) (.nil)
noncomputable def b_law_0_27:ASs:=.cons (.ite (.cmp .Gt (.prim .len (.cons (.loc 23 285393984) (.nil)) 285328000 285328512) (.cst (.int 0) 285558144) 285328768) (b_law_25_0) (.nil) 285280275) (b_law_0_28)
noncomputable def b_law_0_26:ASs:=.cons (.ite (.not (.meth (.loc 21 277005184) 66 (.nil) 277005568 277005696) 276940160) (b_law_24_0) (.nil) 276890881) (b_law_0_27)
noncomputable def b_law_0_25:ASs:=.cons (.for (.loc 25 176292416) (.prim .range (.cons (.cel 6 176473600) (.nil)) 176374912 176375360) (b_law_11_0) 176228119) (b_law_0_26)
noncomputable def b_law_0_24:ASs:=.cons (.asg (.t0 (.loc 24 172032576)) (.call 67 (.cons (.cel 6 172345088) (.cons (.cel 4 172459968) (.nil))) 172164480 172165120) 172034048) (b_law_0_25)
noncomputable def b_law_0_23:ASs:=.cons (.asg (.t0 (.loc 23 167838336)) (.comp ["k","z","count"] [(".0",.local),("k",.local),("count",.free),("z",.free)] [(1,4),(2,6)] (.loc 0 168495936) (.bin .Mod (.bin .Add (.bin .FloorDiv (.cel 1 168018944) (.cst (.int 4) 168101184) 168019264) (.bin .Mult (.cst (.int 37) 168167040) (.loc 0 168249216) 168167296) 168019840) (.cel 2 168331712) 168004032) (.prim .range (.cons (.bin .Mod (.bin .FloorDiv (.loc 5 168676864) (.cst (.int 2) 168759104) 168677184) (.cst (.int 4) 168824896) 168677440) (.nil)) 168578432 168579200) (.abs) 167989440) 167841984) (b_law_0_24)
noncomputable def b_law_0_22:ASs:=.cons (.ite (.bop false (.cons (.cmp .NotEq (.meth (.loc 21 159498880) 50 (.nil) 159499392 159499520) (.tup (.cons (.cst (.int 0) 159794816) (.cons (.cst (.int 0) 159844160) (.nil))) 159778688) 159500160) (.cons (.meth (.loc 21 159942976) 66 (.nil) 159943360 159943488) (.nil))) 159501120) (b_law_10_0) (.nil) 159450369) (b_law_0_23)
noncomputable def b_law_0_21:ASs:=.cons (.asg (.t0 (.loc 22 155255360)) (.comp ["content"] [(".0",.local),("content",.local),("len",.globalImplicit)] [] (.loc 0 155847616) (.bin .Mult (.lst (.cons (.cst (.bool false) 155419840) (.nil)) 155403520) (.prim .len (.cons (.loc 0 155633792) (.nil)) 155567744 155568320) 155404480) (.loc 9 156028608) (.abs) 155389696) 155258624) (b_law_0_22)
noncomputable def b_law_0_20:ASs:=.cons (.asg (.t0 (.loc 21 151060928)) (.new 65 (.cons (.loc 18 151258368) (.cons (.loc 7 151357120) (.nil))) 151159744 151160576) 151062272) (b_law_0_21)
noncomputable def b_law_0_19:ASs:=.cons (.ite (.cmp .Eq (.bin .Mod (.loc 5 130138624) (.cst (.int 2) 130204416) 130138880) (.cst (.int 1) 130286656) 130139200) (b_law_6_0) (b_law_8_0) 130090244) (b_law_0_20)
noncomputable def b_law_0_18:ASs:=.cons (.asg (.t0 (.loc 20 125895296)) (.prim .bytes (.cons (.call 59 (.cons (.loc 17 126339200) (.nil)) 126142336 126142656) (.nil)) 126043264 126044416) 125896960) (b_law_0_19)
noncomputable def b_law_0_17:ASs:=.cons (.ite (.bop false (.cons (.cmp .Is (.loc 18 117555904) (.cst (.none) 117687488) 117556416) (.cons (.cmp .Is (.call 63 (.cons (.tup (.cons (.call 62 (.cons (.loc 5 118197184) (.nil)) 118016832 118017024) (.cons (.call 62 (.cons (.loc 2 118443904) (.nil)) 118263552 118263744) (.cons (.cst (.bytes []) 118509824) (.cons (.loc 16 118592064) (.cons (.tup (.cons (.loc 19 118690880) (.nil)) 118674624) (.nil)))))) 118002944) (.nil)) 117819456 117822784) (.cst (.none) 118904640) 117823296) (.nil))) 117561152) (b_law_5_0) (.nil) 117507329) (b_law_0_18)
noncomputable def b_law_0_16:ASs:=.cons (.asg (.t0 (.loc 19 113312320)) (.tup (.cons (.bin .Mod (.cel 4 113460096) (.cst (.int 12) 113525952) 113460416) (.cons (.call 62 (.cons (.loc 2 113772608) (.nil)) 113592256 113592448) (.cons (.bin .Sub (.cst (.int 4294967295) 113838976) (.loc 5 114052224) 113839232) (.cons (.loc 15 114101760) (.cons (.cst (.bytes []) 114200384) (.nil)))))) 113446784) 113315712) (b_law_0_17)
noncomputable def b_law_0_15:ASs:=.cons (.asg (.t0 (.loc 18 109117952)) (.call 63 (.cons (.loc 17 109413952) (.nil)) 109233472 109233792) 109119104) (b_law_0_16)
noncomputable def b_law_0_14:ASs:=.cons (.asg (.t0 (.loc 17 104923584)) (.tup (.cons (.call 62 (.cons (.loc 3 105219520) (.nil)) 105039168 105039360) (.cons (.call 62 (.cons (.cel 4 105466240) (.nil)) 105285888 105286080) (.cons (.loc 15 105532224) (.cons (.loc 16 105630848) (.cons (.prim .tuple (.cons (.loc 10 105811904) (.nil)) 105713216 105713664) (.nil)))))) 105025600) 104927296) (b_law_0_15)
noncomputable def b_law_0_13:ASs:=.cons (.asg (.t0 (.loc 16 100729280)) (.bin .Mod (.call 62 (.cons (.loc 5 101008768) (.nil)) 100828416 100828608) (.cst (.int 72057594037927936) 101092032) 100829888) 100731584) (b_law_0_14)
noncomputable def b_law_0_12:ASs:=.cons (.asg (.t0 (.loc 15 96535040)) (.bin .Mult (.cst (.bytes [99]) 96650176) (.bin .Mod (.bin .FloorDiv (.loc 2 96781568) (.cst (.int 12) 96863872) 96781952) (.cst (.int 200) 96946176) 96782336) 96651328) 96536640) (b_law_0_13)
noncomputable def b_law_0_11:ASs:=.cons (.for (.loc 11 54657728) (.prim .range (.cons (.cel 6 54871680) (.nil)) 54772992 54773440) (b_law_2_0) 54597001) (b_law_0_12)
noncomputable def b_law_0_10:ASs:=.cons (.asg (.t0 (.loc 10 50397760)) (.lst (.nil) 50529152) 50398080) (b_law_0_11)
noncomputable def b_law_0_9:ASs:=.cons (.asg (.t0 (.loc 9 46203648)) (.lst (.nil) 46384192) 46203968) (b_law_0_10)
noncomputable def b_law_0_8:ASs:=.cons (.asg (.t0 (.loc 8 42009024)) (.bin .Mod (.cel 4 42107584) (.cel 6 42173632) 42108096) 42009792) (b_law_0_9)
noncomputable def b_law_0_7:ASs:=.cons (.asg (.t0 (.loc 7 37814848)) (.sub (.tup (.cons (.cst (.int 2) 37962624) (.cons (.cst (.int 1) 38011968) (.cons (.cst (.int 3) 38061312) (.nil)))) 37946688) (.bin .Mod (.bin .FloorDiv (.loc 2 38110656) (.cst (.int 4) 38192896) 38110976) (.cst (.int 3) 38258688) 38111232) 37947456) 37816384) (b_law_0_8)
noncomputable def b_law_0_6:ASs:=.cons (.asg (.t0 (.cel 6 33620544)) (.sub (.tup (.cons (.cst (.int 128) 33768448) (.cons (.cst (.int 127) 33850688) (.cons (.cst (.int 129) 33932928) (.cons (.bin .Add (.cst (.int 100) 34015168) (.bin .Mod (.loc 3 34113728) (.cst (.int 41) 34179584) 34114048) 34015744) (.nil))))) 33753664) (.bin .Mod (.loc 2 34245312) (.cst (.int 4) 34311104) 34245568) 33754112) 33623040) (b_law_0_7)
noncomputable def b_law_0_5:ASs:=.cons (.asg (.t0 (.loc 5 29425984)) (.call 61 (.cons (.loc 1 29656448) (.cons (.cst (.int 3) 29754944) (.nil))) 29492288 29492864) 29427328) (b_law_0_6)
noncomputable def b_law_0_4:ASs:=.cons (.asg (.t0 (.cel 4 25231680)) (.call 61 (.cons (.loc 1 25462144) (.cons (.cst (.int 2) 25560640) (.nil))) 25297984 25298560) 25233024) (b_law_0_5)
noncomputable def b_law_0_3:ASs:=.cons (.asg (.t0 (.loc 3 21037376)) (.call 61 (.cons (.loc 1 21267840) (.cons (.cst (.int 1) 21366336) (.nil))) 21103680 21104256) 21038720) (b_law_0_4)
noncomputable def b_law_0_2:ASs:=.cons (.asg (.t0 (.loc 2 16843072)) (.call 61 (.cons (.loc 1 17073536) (.cons (.cst (.int 0) 17172032) (.nil))) 16909376 16909952) 16844416) (b_law_0_3)
noncomputable def b_law_0_1:ASs:=.cons (.ite (.cmp .Eq (.prim .len (.cons (.loc 1 8569792) (.nil)) 8503936 8504320) (.cst (.int 0) 8717632) 8504640) (b_law_1_0) (.nil) 8455297) (b_law_0_2)
noncomputable def b_law_0_0:ASs:=.cons (.asg (.t0 (.loc 1 4260352)) (.comp ["x"] [(".0",.local),("x",.local)] [] (.loc 0 4638464) (.bin .Mod (.loc 0 4391744) (.cst (.int 999983) 4457856) 4392320) (.slc (.loc 0 4721024) (.abs) (.cst (.int 8) 4852288) 4835904 4721280) (.abs) 4377280) 4262592) (b_law_0_1)
noncomputable def fd_law:FD:=⟨417,["script","nums","s","y","z","t","count","limit","far","contents","infos","run","content","check","low","conf","seq","row","back","great","octets","box","flags","wrongs","order","j","told","near","k","offset"],1,[],b_law_0_0⟩
noncomputable def nmL:List String:=["","__init__","BadOption","ShortOctets","Corrupt","MAX_64","write_groups","read_groups","MAX_32","read_varint32","CHECK_CRC","crc32c","mask","CHECK_SUM","Cursor","varint","MAX_SEQ","lengthed","MOST_LEVELS","fixed32","RunInfo","done","Manifesto","data","at","read_varint","read_fixed32","read_lengthed","left","parts","put_varint","put_fixed32","put_varint32","level","size","check","smallest","largest","checksum","index","term","conf_octets","last_seq","runs","row","Sink","manifesto","piece_limit","held","first_hole","missing","lay","fits","_law_number","_law_text","decode_manifesto","take","_law_made","encode","_law_octets","_law_read","_law_draw","_law_field","_law_whole","_law_why","Inbox","whole","_law_order","_law_give","_law_hole","_law_runs","law","KeepError","StoreError"]
noncomputable abbrev i_BadOption:Nat:=2
noncomputable abbrev i_ShortOctets:Nat:=3
noncomputable abbrev i_Corrupt:Nat:=4
noncomputable abbrev i_MAX_64:Nat:=5
noncomputable abbrev i_write_groups:Nat:=6
noncomputable abbrev i_read_groups:Nat:=7
noncomputable abbrev i_MAX_32:Nat:=8
noncomputable abbrev i_read_varint32:Nat:=9
noncomputable abbrev i_CHECK_CRC:Nat:=10
noncomputable abbrev i_crc32c:Nat:=11
noncomputable abbrev i_mask:Nat:=12
noncomputable abbrev i_CHECK_SUM:Nat:=13
noncomputable abbrev i_Cursor:Nat:=14
noncomputable abbrev i_varint:Nat:=15
noncomputable abbrev i_MAX_SEQ:Nat:=16
noncomputable abbrev i_lengthed:Nat:=17
noncomputable abbrev i_MOST_LEVELS:Nat:=18
noncomputable abbrev i_fixed32:Nat:=19
noncomputable abbrev i_RunInfo:Nat:=20
noncomputable abbrev i_done:Nat:=21
noncomputable abbrev i_Manifesto:Nat:=22
noncomputable abbrev i_data:Nat:=23
noncomputable abbrev i_at:Nat:=24
noncomputable abbrev i_read_varint:Nat:=25
noncomputable abbrev i_read_fixed32:Nat:=26
noncomputable abbrev i_read_lengthed:Nat:=27
noncomputable abbrev i_left:Nat:=28
noncomputable abbrev i_parts:Nat:=29
noncomputable abbrev i_put_varint:Nat:=30
noncomputable abbrev i_put_fixed32:Nat:=31
noncomputable abbrev i_put_varint32:Nat:=32
noncomputable abbrev i_level:Nat:=33
noncomputable abbrev i_size:Nat:=34
noncomputable abbrev i_check:Nat:=35
noncomputable abbrev i_smallest:Nat:=36
noncomputable abbrev i_largest:Nat:=37
noncomputable abbrev i_checksum:Nat:=38
noncomputable abbrev i_index:Nat:=39
noncomputable abbrev i_term:Nat:=40
noncomputable abbrev i_conf_octets:Nat:=41
noncomputable abbrev i_last_seq:Nat:=42
noncomputable abbrev i_runs:Nat:=43
noncomputable abbrev i_row:Nat:=44
noncomputable abbrev i_Sink:Nat:=45
noncomputable abbrev i_manifesto:Nat:=46
noncomputable abbrev i_piece_limit:Nat:=47
noncomputable abbrev i_held:Nat:=48
noncomputable abbrev i_first_hole:Nat:=49
noncomputable abbrev i_missing:Nat:=50
noncomputable abbrev i_lay:Nat:=51
noncomputable abbrev i_fits:Nat:=52
noncomputable abbrev i_law_number:Nat:=53
noncomputable abbrev i_law_text:Nat:=54
noncomputable abbrev i_decode_manifesto:Nat:=55
noncomputable abbrev i_take:Nat:=56
noncomputable abbrev i_law_made:Nat:=57
noncomputable abbrev i_encode:Nat:=58
noncomputable abbrev i_law_octets:Nat:=59
noncomputable abbrev i_law_read:Nat:=60
noncomputable abbrev i_law_draw:Nat:=61
noncomputable abbrev i_law_field:Nat:=62
noncomputable abbrev i_law_whole:Nat:=63
noncomputable abbrev i_law_why:Nat:=64
noncomputable abbrev i_Inbox:Nat:=65
noncomputable abbrev i_whole:Nat:=66
noncomputable abbrev i_law_order:Nat:=67
noncomputable abbrev i_law_give:Nat:=68
noncomputable abbrev i_law_hole:Nat:=69
noncomputable abbrev i_law_runs:Nat:=70
noncomputable abbrev i_law:Nat:=71
noncomputable abbrev i_KeepError:Nat:=72
noncomputable abbrev i_StoreError:Nat:=73
noncomputable def rows:List FRow:=[⟨0,6,89,fd_write_groups⟩,
 ⟨0,7,96,fd_read_groups⟩,
 ⟨0,30,103,fd_put_varint⟩,
 ⟨0,25,110,fd_read_varint⟩,
 ⟨0,32,117,fd_put_varint32⟩,
 ⟨0,9,124,fd_read_varint32⟩,
 ⟨0,31,131,fd_put_fixed32⟩,
 ⟨0,26,138,fd_read_fixed32⟩,
 ⟨0,27,145,fd_read_lengthed⟩,
 ⟨0,38,174,fd_checksum⟩,
 ⟨0,55,413,fd_decode_manifesto⟩,
 ⟨0,51,420,fd_lay⟩,
 ⟨14,1,189,fd_Cursor_init⟩,
 ⟨14,28,196,fd_Cursor_left⟩,
 ⟨14,15,203,fd_Cursor_varint⟩,
 ⟨14,19,210,fd_Cursor_fixed32⟩,
 ⟨14,17,224,fd_Cursor_lengthed⟩,
 ⟨14,21,252,fd_Cursor_done⟩,
 ⟨45,1,273,fd_Sink_init⟩,
 ⟨45,15,280,fd_Sink_varint⟩,
 ⟨45,19,287,fd_Sink_fixed32⟩,
 ⟨45,17,301,fd_Sink_lengthed⟩,
 ⟨45,21,329,fd_Sink_done⟩,
 ⟨20,1,350,fd_RunInfo_init⟩,
 ⟨20,44,357,fd_RunInfo_row⟩,
 ⟨20,52,364,fd_RunInfo_fits⟩,
 ⟨22,1,385,fd_Manifesto_init⟩,
 ⟨22,44,392,fd_Manifesto_row⟩,
 ⟨22,58,399,fd_Manifesto_encode⟩,
 ⟨65,1,434,fd_Inbox_init⟩,
 ⟨65,49,441,fd_Inbox_first_hole⟩,
 ⟨65,50,448,fd_Inbox_missing⟩,
 ⟨65,66,455,fd_Inbox_whole⟩,
 ⟨65,56,462,fd_Inbox_take⟩,
 ⟨65,43,467,fd_Inbox_runs⟩,
 ⟨0,61,488,fd_law_draw⟩,
 ⟨0,62,495,fd_law_field⟩,
 ⟨0,53,502,fd_law_number⟩,
 ⟨0,54,509,fd_law_text⟩,
 ⟨0,59,516,fd_law_octets⟩,
 ⟨0,57,521,fd_law_made⟩,
 ⟨0,60,528,fd_law_read⟩,
 ⟨0,64,535,fd_law_why⟩,
 ⟨0,70,542,fd_law_runs⟩,
 ⟨0,69,549,fd_law_hole⟩,
 ⟨0,68,556,fd_law_give⟩,
 ⟨0,67,561,fd_law_order⟩,
 ⟨0,63,568,fd_law_whole⟩,
 ⟨0,71,573,fd_law⟩]
noncomputable def crows:List CRow:=[⟨14,255,[23,24]⟩,⟨45,332,[29]⟩,⟨20,367,[33,34,35,36,37]⟩,⟨22,402,[39,40,41,42,43]⟩,⟨65,477,[46,47,48]⟩]
noncomputable def erows:List ERow:=[⟨72,31⟩,⟨73,44⟩,⟨4,56⟩,⟨3,68⟩,⟨2,80⟩]
noncomputable def glbs:List (Nat×Int):=[(8,4294967295),(5,18446744073709551615),(10,1),(13,2),(16,72057594037927935),(18,12)]
noncomputable def subs:List (Nat×Nat):=[(72,72),(73,73),(73,72),(4,4),(4,73),(4,72),(3,3),(3,4),(3,73),(3,72),(2,2),(2,73),(2,72)]
noncomputable def nm (i:Nat):String:=nmL.getD i ""
noncomputable def NM:Nat:=nmL.length
noncomputable def T:Tab where
 glb:=glbOf glbs
 fn:=fun c f=>(rowOf rows c f).map (·.fd)
 cls:=fun c=>(crowOf crows c).isSome
 field:=fun c a=>(crowOf crows c).any fun r=>r.fields.any (Nat.beq a)
 isExc:=fun c=>(erowOf erows c).isSome
 sub:=fun a b=>subs.any fun p=>Nat.beq p.1 a&&Nat.beq p.2 b
noncomputable def fa (c f:Nat):Addr:=((rowOf rows c f).map (·.a)).getD 0
noncomputable def CA (c:Nat):Addr:=Option.casesOn (crowOf crows c) (((erowOf erows c).map (·.C)).getD 0) fun r=>r.C
end Ab
end
section
namespace Ab
open PySem
noncomputable def dp (L p:Nat):Pos:=⟨L + p / 4194304,p / 16384 % 256,L + p / 4194304 + p % 64,p / 64 % 256⟩
noncomputable def nmE (N:List String) (i p L:Nat):Expr:=.Name (Str.ofString (N.getD i "")) (dp L p)
noncomputable def gnE (i p L:Nat):Expr:=.Name (Str.ofString (nm i)) (dp L p)
noncomputable def constOf (v:AV):Const:=AV.casesOn v .none .bool .int .bytes (fun _=>.none) (fun _=>.none) (fun _ _=>.none) fun s=>.str (Str.ofString s)
noncomputable def Prim.name (k:Prim):String:=Prim.casesOn k "len" "bytes" "bytearray" "tuple" "sum" "min" "max" "range" "sorted" "list"
noncomputable def LM.name (m:LM):String:=LM.casesOn m "append" "index" "extend" "append" "extend" "join"
noncomputable def toT0 (N:List String) (L:Nat):AT0->Expr
 | .loc i p=>nmE N i p L
 | .cel i p=>nmE N i p L
 | .tup is p=>.Tuple (is.map fun x=>nmE N x.1 x.2 L) 0 (dp L p)
noncomputable def scopeOf (sc:List (String×NameKind)):List (Str×NameKind):=sc.map fun x=>(Str.ofString x.1,x.2)
noncomputable def optE (e:AE) (x:Expr):Option Expr:=bif isAbs e then none else some x
mutual
noncomputable def toE (L:Nat):AE->List String->Expr
 | .cst v p,_=>.Constant (constOf v) 0 (dp L p)
 | .loc i p,N=>nmE N i p L
 | .cel i p,N=>nmE N i p L
 | .glb x p,_=>gnE x p L
 | .bin op l r p,N=>.BinOp (toE L l N) op (toE L r N) (dp L p)
 | .cmp op l r p,N=>.Compare (toE L l N) [op] [toE L r N] (dp L p)
 | .not e p,N=>.UnaryOp .Not (toE L e N) (dp L p)
 | .bop k es p,N=>.BoolOp (Bool.casesOn k .Or .And) (toEs L es N) (dp L p)
 | .call f es pn p,N=>.Call (gnE f pn L) (toEs L es N) [] (dp L p)
 | .new c es pn p,N=>.Call (gnE c pn L) (toEs L es N) [] (dp L p)
 | .prim k es pn p,N=>.Call (.Name (Str.ofString k.name) (dp L pn)) (toEs L es N) [] (dp L p)
 | .isb e pn pt p,N=>.Call (.Name "isinstance" (dp L pn)) [toE L e N,.Name "bytes" (dp L pt)] [] (dp L p)
 | .meth o m es pa p,N=>.Call (.Attribute (toE L o N) (Str.ofString (nm m)) (dp L pa)) (toEs L es N) [] (dp L p)
 | .lmeth o m es pa p,N=>.Call (.Attribute (toE L o N) (Str.ofString m.name) (dp L pa)) (toEs L es N) [] (dp L p)
 | .attr o a p,N=>.Attribute (toE L o N) (Str.ofString (nm a)) (dp L p)
 | .sub o i p,N=>.Subscript (toE L o N) (toE L i N) (dp L p)
 | .slc o lo hi ps p,N=>.Subscript (toE L o N) (.Slice (optE lo (toE L lo N)) (optE hi (toE L hi N)) none (dp L ps)) (dp L p)
 | .abs,_=>.Tuple [] 0 (dp L 0)
 | .lst es p,N=>.List (toEs L es N) (dp L p)
 | .tup es p,N=>.Tuple (toEs L es N) 0 (dp L p)
 | .comp ns sc _ tgt elt it cond p,N=>.ListComp (toE L elt ns) [⟨toT0 ns L tgt,toE L it N,(optE cond (toE L cond ns)).toList,0⟩] ⟨.function,scopeOf sc,false,false,[]⟩ (dp L p)
termination_by structural e=>e
noncomputable def toEs (L:Nat):AEs->List String->List Expr
 | .nil,_=>[]
 | .cons e es,N=>toE L e N::toEs L es N
termination_by structural es=>es
end
noncomputable def toFs (L:Nat) (N:List String):AFs->List Expr
 | .nil=>[]
 | .txt s p r=>.Constant (.str (Str.ofString s)) 0 (dp L p)::toFs L N r
 | .fmt e p r=>.FormattedValue (toE L e N) (-1) none (dp L p)::toFs L N r
noncomputable def toT (L:Nat) (N:List String):AT->Expr
 | .t0 t=>toT0 N L t
 | .attr o a p=>.Attribute (toE L o N) (Str.ofString (nm a)) (dp L p)
 | .sub o i p=>.Subscript (toE L o N) (toE L i N) (dp L p)
noncomputable def toH (L:Nat) (h:HRow):ExceptHandler :=
 .ExceptHandler (some (gnE h.c h.pn L)) none [.Return (some (.Constant (constOf h.v) 0 (dp L h.pv))) (dp L h.pr)] (dp L h.p)
mutual
noncomputable def toS (L:Nat) (N:List String):AS->Stmt
 | .expr e p=>.Expr (toE L e N) (dp L p)
 | .ret e p=>.Return (some (toE L e N)) (dp L p)
 | .ret0 p=>.Return none (dp L p)
 | .asg t e p=>.Assign [toT L N t] (toE L e N) (dp L p)
 | .aug i op e pn p=>.AugAssign (nmE N i pn L) op (toE L e N) (dp L p)
 | .augAttr i a op e pn pa p=>.AugAssign (.Attribute (nmE N i pn L) (Str.ofString (nm a)) (dp L pa)) op (toE L e N) (dp L p)
 | .ite c b o p=>.If (toE L c N) (toSs L N b) (toSs L N o) (dp L p)
 | .whl c b p=>.While (toE L c N) (toSs L N b) [] (dp L p)
 | .for t it b p=>.For (toT0 N L t) (toE L it N) (toSs L N b) [] (dp L p)
 | .raise c s fs ps pn pc p=>.Raise (some (.Call (gnE c pn L) [Option.casesOn s (.JoinedStr (toFs L N fs) (dp L ps)) fun x=>.Constant (.str (Str.ofString x)) 0 (dp L ps)] [] (dp L pc))) none (dp L p)
 | .try b hs p=>.Try (toSs L N b) (hs.map (toH L)) [] [] (dp L p)
termination_by structural s=>s
noncomputable def toSs (L:Nat) (N:List String):ASs->List Stmt
 | .nil=>[]
 | .cons s ss=>toS L N s::toSs L N ss
termination_by structural ss=>ss
end
abbrev Sc:=List (Str×NameKind)
noncomputable def isK (sc:Sc) (x:String) (k:NameKind):Bool:=sc.lookup (Str.ofString x)==some k
noncomputable def slotK (N:List String) (sc:Sc) (i:Nat) (k:NameKind):Bool:=Nat.blt i N.length&&isK sc (N.getD i "") k
noncomputable def slotC (N:List String) (sc:Sc) (i:Nat):Bool:=Nat.blt i N.length&&(isK sc (N.getD i "") .cell || isK sc (N.getD i "") .free)
noncomputable def isG (sc:Sc) (i:Nat):Bool:=isK sc (nm i) .globalImplicit&&(Str.ofString (nm i) != "__debug__")
noncomputable def AEs.len (es:AEs):Nat:=AEs.rec (motive_1:=fun _=>Unit) (motive_2:=fun _=>Nat) (fun _ _=>()) (fun _ _=>()) (fun _ _=>()) (fun _ _=>()) (fun _ _ _ _ _ _=>()) (fun _ _ _ _ _ _=>()) (fun _ _ _=>()) (fun _ _ _ _=>()) (fun _ _ _ _ _=>()) (fun _ _ _ _ _=>()) (fun _ _ _ _ _=>()) (fun _ _ _ _ _=>()) (fun _ _ _ _ _ _ _=>()) (fun _ _ _ _ _ _ _=>()) (fun _ _ _ _=>()) (fun _ _ _ _ _=>()) (fun _ _ _ _ _ _ _ _=>()) () (fun _ _ _=>()) (fun _ _ _=>()) (fun _ _ _ _ _ _ _ _ _ _ _=>()) 0 (fun _ _ _ n=>n+1) es
noncomputable def lenOk (es:AEs):Bool:=Nat.ble es.len 20
noncomputable def notSup (o:AE):Bool:=match o with
 | .call _ .nil _ _=>false
 | .new _ .nil _ _=>false
 | .prim _ .nil _ _=>false
 | _=>true
noncomputable def lineOk (L pa p:Nat):Bool:=Nat.beq (dp L pa).endLine (dp L p).line
noncomputable def isCmp (e:AE):Bool:=match e with
 | .comp ..=>true
 | _=>false
noncomputable def okT0 (N:List String) (sc:Sc) (t:AT0):Bool:=match t with
 | .loc i _=>slotK N sc i .local
 | .cel i _=>slotK N sc i .cell
 | .tup is _=>Nat.ble 2 is.length&&Nat.ble is.length 8&&is.all fun x=>slotK N sc x.1 .local
noncomputable def compSc (sc inner:Sc):Sc:=inner.map fun x=>if x.2==.free&&sc.lookup x.1==some .cell then (x.1,.cell) else x
noncomputable def capsOk (N:List String) (sc:Sc) (names:List String) (inner:Sc) (caps:List (Nat×Nat)):Bool :=
 (List.range names.length).all fun j=>match caps.filter (·.1==j) with
   | []=>isK inner (names.getD j "") .local
   | [(_,i)]=>isK inner (names.getD j "") .free&&slotC N sc i&&(Str.ofString (N.getD i "")==Str.ofString (names.getD j ""))
   | _=>false
noncomputable def okC (N:List String) (sc:Sc) (ns:List String) (inner:Sc) (caps:List (Nat×Nat)) (tgt:AT0):Bool :=
 decide ns.Nodup&&ns.all (fun x=>(Str.ofString x != "__debug__")&&(Str.ofString x != "__classdict__"))&&inner.all (fun x=>x.2 != .cell)&&capsOk N sc ns inner caps&&decide ((inner.map (·.1)).Nodup)&&inner.all (fun p=>p.2 != .free || ns.any (fun x=>Str.ofString x==p.1)) &&
  (match tgt with|.cel ..=>false|_=>true)&&okT0 ns (compSc sc inner) tgt
noncomputable def okCst (v:AV):Bool:=AV.casesOn v true (fun _=>true) (fun _=>true) (fun b=>Nat.ble b.length 1000) (fun _=>false) (fun _=>false) (fun _ _=>false) fun _=>true
mutual
noncomputable def okE (L:Nat):AE->List String->Sc->Bool
 | .cst v _,_,_=>okCst v
 | .loc i _,N,sc=>slotK N sc i .local
 | .cel i _,N,sc=>slotC N sc i
 | .glb x _,_,sc=>isG sc x
 | .bin _ l r _,N,sc=>okE L l N sc&&okE L r N sc
 | .cmp _ l r _,N,sc=>okE L l N sc&&okE L r N sc
 | .not e _,N,sc=>okE L e N sc
 | .bop _ es _,N,sc=>okEs L es N sc
 | .call f es _ _,N,sc=>isG sc f&&lenOk es&&okEs L es N sc
 | .new c es _ _,N,sc=>isG sc c&&lenOk es&&okEs L es N sc
 | .prim k es _ _,N,sc=>isK sc k.name .globalImplicit&&lenOk es&&okEs L es N sc
 | .isb e _ _ _,N,sc=>isK sc "isinstance" .globalImplicit&&isK sc "bytes" .globalImplicit&&okE L e N sc
 | .meth o _ es pa p,N,sc=>lineOk L pa p&&notSup o&&lenOk es&&okE L o N sc&&okEs L es N sc
 | .lmeth o _ es pa p,N,sc=>lineOk L pa p&&notSup o&&lenOk es&&okE L o N sc&&okEs L es N sc
 | .attr o _ _,N,sc=>notSup o&&okE L o N sc
 | .sub o i _,N,sc=>okE L o N sc&&okE L i N sc
 | .slc o lo hi _ _,N,sc=>okE L o N sc&&(isAbs lo || okE L lo N sc)&&(isAbs hi || okE L hi N sc)
 | .abs,_,_=>false
 | .lst es _,N,sc=>lenOk es&&okEs L es N sc
 | .tup es _,N,sc=>lenOk es&&okEs L es N sc
 | .comp ns s caps tgt elt it cond _,N,sc=>okE L it N sc&&okC N sc ns (scopeOf s) caps tgt&&okE L elt ns (compSc sc (scopeOf s))&&(isAbs cond || okE L cond ns (compSc sc (scopeOf s)))
termination_by structural e=>e
noncomputable def okEs (L:Nat):AEs->List String->Sc->Bool
 | .nil,_,_=>true
 | .cons e es,N,sc=>okE L e N sc&&okEs L es N sc
termination_by structural es=>es
end
end Ab
end
section
namespace Ab
open PySem PySem.W PyProof.Rows
abbrev Reg:=List (Addr×Addr)
structure Gx where
 prog:Program
 w:World
 B:Heap
 K:Frag
 mg:Str->Option Value
 mb:Str->Option Value
structure Fx where
 env:Env
 names:List String
 cur:List Addr
 fs:List Addr
 chain:List Env
structure Cx where
 G:Gx
 A:Around
 X:Fx
abbrev Fx.own (X:Fx):List Addr:=X.cur++X.fs
structure RngOk (n:Nat) (f:Nat->Nat) (x y z:Int):Prop where
 sz:Builtin.Range.rangeSize x y z=(n:Int)
 sm:Builtin.Range.small x y z=true
 at':∀ i:Nat,(f i:Int)=x + (i:Int) * z
 le:n<=LIM
inductive VRel (h:Heap) (R:Reg):Value->AV->Prop where
 | none:VRel h R .none .none
 | bool (b:Bool):VRel h R (.bool b) (.bool b)
 | int (i:Int) (t:Tok):VRel h R (.int i t) (.int i)
 | bytes (b:List UInt8) (t:Tok) (z:b.length<=LIM):VRel h R (.bytes b.toArray t) (.bytes b)
 | tup {a:Addr} {vs:List Value} {as:List AV}:h.TupAt a vs->vs.length=as.length->as.length<=LIM →
   (∀ (i:Nat) (v:Value) (w:AV),vs[i]?=some v->as[i]?=some w->VRel h R v w)->VRel h R (.ref a) (.tup as)
 | ref {l:Nat} {p:Addr×Addr}:R[l]?=some p->VRel h R (.ref p.1) (.ref l)
 | rng {a:Addr} {n:Nat} {f:Nat->Nat} {x y z:Int} {t u v:Tok}:RngOk n f x y z->IsRange h a x y z t u v->VRel h R (.ref a) (.rng n f)
 | str (x:String) (t:Tok):VRel h R (.str (Str.ofString x) t) (.str x)
structure VRels (h:Heap) (R:Reg) (vs:List Value) (as:List AV):Prop where
 len:vs.length=as.length
 ix:∀ (i:Nat) (v:Value) (w:AV),vs[i]?=some v->as[i]?=some w->VRel h R v w
inductive TupV (h:Heap) (R:Reg) (v:Value) (as:List AV):Prop
 | mk (a:Addr) (vs:List Value) (e:v=.ref a) (t:h.TupAt a vs) (z:as.length<=LIM) (r:VRels h R vs as)
inductive RefV (R:Reg) (v:Value) (l:Nat):Prop
 | mk (a b:Addr) (e:v=.ref a) (g:R[l]?=some (a,b))
inductive RngV (h:Heap) (v:Value) (n:Nat) (f:Nat->Nat):Prop
 | mk (a:Addr) (x y z:Int) (t u w:Tok) (e:v=.ref a) (k:RngOk n f x y z) (r:IsRange h a x y z t u w)
section
variable {h:Heap} {R:Reg} {v:Value}
theorem VRel.none_v (r:VRel h R v .none):v=.none:=by cases r;rfl
theorem VRel.bool_v {b:Bool} (r:VRel h R v (.bool b)):v=.bool b:=by cases r;rfl
theorem VRel.int_v {i:Int} (r:VRel h R v (.int i)):∃ t,v=.int i t:=by cases r;exact ⟨_,rfl⟩
theorem VRel.bytes_v {b:List UInt8} (r:VRel h R v (.bytes b)):∃ t,v=.bytes b.toArray t/\b.length<=LIM:=by cases r;exact ⟨_,rfl,‹_›⟩
theorem VRel.tup_v {as:List AV} (r:VRel h R v (.tup as)):TupV h R v as:=by cases r with|tup t l z k=>exact ⟨_,_,rfl,t,z,l,k⟩
theorem VRel.ref_v {l:Nat} (r:VRel h R v (.ref l)):RefV R v l:=by cases r with|ref e=>exact ⟨_,_,rfl,e⟩
theorem VRel.rng_v {n:Nat} {f:Nat->Nat} (r:VRel h R v (.rng n f)):RngV h v n f:=by cases r with|rng z e=>exact ⟨_,_,_,_,_,_,_,rfl,z,e⟩
theorem VRel.str_v {x:String} (r:VRel h R v (.str x)):∃ t,v=.str (Str.ofString x) t:=by cases r;exact ⟨_,rfl⟩
theorem VRel.mkRef {l:Nat} {a b:Addr} (e:R[l]?=some (a,b)):VRel h R (.ref a) (.ref l):=.ref e
theorem VRel.mkTup {a:Addr} {vs:List Value} {as:List AV} (t:h.TupAt a vs) (z:as.length<=LIM) (r:VRels h R vs as):VRel h R (.ref a) (.tup as):=.tup t r.len z r.ix
end
structure FMap (h:Heap) (R:Reg) (es:List DictEntry) (fs:List (Nat×AV)):Prop where
 sm:∀ a v,a < NM->fget a fs=some v->∃ rv,getL (Str.ofString (nm a)) es=some (some rv)/\VRel h R rv v
 nn:∀ a,a < NM->fget a fs=none->getL (Str.ofString (nm a)) es=some none
 plain:es.any (·.refKey)=false
inductive LstAt (h:Heap) (R:Reg) (p:Addr×Addr) (vs:List AV):Prop
 | mk (us:List Value) (n:Nat) (e:p.1=p.2) (z:vs.length<=LIM) (g:h.get? p.2=some (listOf us.toArray n)) (r:VRels h R us vs)
structure BarAt (h:Heap) (p:Addr×Addr) (b:List UInt8):Prop where
 e:p.1=p.2
 z:b.length<=LIM
 g:h.get? p.2=some { cls:=.type "bytearray",data:=.bytearray b.toArray 0 }
structure FrzAt (h:Heap) (R:Reg) (p:Addr×Addr) (its:List Value) (vs:List AV):Prop where
 e:p.1=p.2
 z:vs.length<=LIM
 g:h.get? p.2=some (listOf its.toArray 0)
 r:VRels h R its vs
inductive InsAt (h:Heap) (R:Reg) (p:Addr×Addr) (c:Nat) (fs:List (Nat×AV)):Prop
 | mk (es:List DictEntry) (n:Nat) (g:h.get? p.1=some (instObj (CA c) p.2)) (d:h.get? p.2=some (dictOf es n)) (l:es.length=fs.length) (m:FMap h R es fs)
def ORel (h:Heap) (R:Reg) (p:Addr×Addr) (o:AObj):Prop:=AObj.casesOn o (LstAt h R p) (BarAt h p) (InsAt h R p) (FrzAt h R p)
def FrObj (o:Obj):Prop:=(∃ es n,o.data=.dict es n)\/∃ v,o.data=.cell v
inductive Owned (h:Heap) (a:Addr):Prop
 | mk (o:Obj) (g:h.get? a=some o) (f:FrObj o)
structure Sat (Γ:Cx) (R:Reg) (h:Heap) (H:AH):Prop where
 keep:∀ b o,Γ.G.B.get? b=some o->h.get? b=some o
 newR:∀ p∈R,Γ.G.B.get? p.2=none
 newC:∀ a∈Γ.X.own,Γ.G.B.get? a=none
 nodup:(R.map (·.2)++Γ.X.own).Nodup
 inj:(R.map (·.1)).Nodup
 len:R.length=H.length
 objs:∀ (i:Nat) (p:Addr×Addr) (o:AObj),R[i]?=some p->H[i]?=some o->ORel h R p o
 frs:∀ a∈Γ.X.own,Owned h a
structure Keeps9 (h:Heap) (R:Reg) (h':Heap) (R':Reg):Prop where
 tup:∀ a vs,h.TupAt a vs->h'.TupAt a vs
 rng:∀ a x y z t u v,IsRange h a x y z t u v->IsRange h' a x y z t u v
 reg:∀ (l:Nat) (p:Addr×Addr),R[l]?=some p->R'[l]?=some p
structure Step (X:Fx) (R:Reg) (h:Heap) (R':Reg) (h':Heap):Prop where
 live:∀ b,(h.get? b).isSome->(h'.get? b).isSome
 same:∀ b o,h.get? b=some o->b∉R.map (·.2)->b∉X.own->h'.get? b=some o
 prot:∀ b o,b∈X.fs->h.get? b=some o->∃ sl,h'.get? b=some { o with slots:=sl }
 ext:∃ new,R'=R++new/\∀ p∈new,h.get? p.2=none
theorem get_none {h h':Heap} (hl:∀ b,(h.get? b).isSome->(h'.get? b).isSome) {b:Addr} (e:h'.get? b=none):h.get? b=none:=by
 refine Option.not_isSome_iff_eq_none.mp fun q=>?_
 have:=hl b q
 rw [e] at this;cases this
theorem some_ne {α:Type} {x:Option α} {a:α} {P:Prop} (e:x=none) (f:x=some a):P:=nomatch e.symm.trans f
section
variable {X:Fx} {R R' R'':Reg} {h h' h'':Heap}
theorem Step.get (x:Step X R h R' h') {l:Nat} {p:Addr×Addr} (e:R[l]?=some p):R'[l]?=some p:=by
 obtain ⟨new,rfl,_⟩:=x.ext
 rw [List.getElem?_append_left (List.getElem?_eq_some_iff.mp e).1];exact e
theorem Step.trans (x:Step X R h R' h') (y:Step X R' h' R'' h''):Step X R h R'' h'' where
 live b e:=y.live b (x.live b e)
 same b o e h1 h2:=y.same b o (x.same b o e h1 h2) (fun hm=>by
  obtain ⟨new,rfl,hn⟩:=x.ext
  rw [List.map_append] at hm
  refine (List.mem_append.mp hm).elim h1 fun hm=>?_
  obtain ⟨p,hp,rfl⟩:=List.mem_map.mp hm
  exact some_ne (hn p hp) e) h2
 prot b o hb e:=(x.prot b o hb e).elim fun _ e1=>(y.prot b _ hb e1).elim fun sl e2=>⟨sl,e2⟩
 ext:=by
  obtain ⟨new,rfl,hn⟩:=x.ext
  obtain ⟨new',rfl,hn'⟩:=y.ext
  exact ⟨new++new',List.append_assoc ..,fun p hp=>(List.mem_append.mp hp).elim (hn p) fun hp=>get_none x.live (hn' p hp)⟩
theorem Step.keepAll (hk:∀ b o,h.get? b=some o->h'.get? b=some o):Step X R h R h' where
 live b e:=(Option.isSome_iff_exists.mp e).elim fun _ e=>Option.isSome_iff_exists.mpr ⟨_,hk _ _ e⟩
 same b o e _ _:=hk _ _ e
 prot b o _ e:=⟨o.slots,hk _ _ e⟩
 ext:=⟨[],(List.append_nil _).symm,fun _ hp=>nomatch hp⟩
theorem Step.refl:Step X R h R h:=.keepAll fun _ _ e=>e
theorem VRel.mono {v:Value} {w:AV} (r:VRel h R v w) (k:Keeps9 h R h' R'):VRel h' R' v w:=by
 induction r with
 | none=>exact .none
 | bool b=>exact .bool b
 | int i t=>exact .int i t
 | bytes b t z=>exact .bytes b t z
 | tup t hl z _ ih=>exact .tup (k.tup _ _ t) hl z ih
 | ref e=>exact .ref (k.reg _ _ e)
 | rng z e=>exact .rng z (k.rng _ _ _ _ _ _ _ e)
 | str x t=>exact .str x t
theorem VRels.mono {vs:List Value} {ws:List AV} (r:VRels h R vs ws) (k:Keeps9 h R h' R'):VRels h' R' vs ws :=
 ⟨r.len,fun i v w e1 e2=>(r.ix i v w e1 e2).mono k⟩
theorem FMap.mono {es:List DictEntry} {fs:List (Nat×AV)} (r:FMap h R es fs) (k:Keeps9 h R h' R'):FMap h' R' es fs :=
 ⟨fun a v ha e=>(r.sm a v ha e).elim fun rv x=>⟨rv,x.1,x.2.mono k⟩,r.nn,r.plain⟩
theorem ORel.mono {p:Addr×Addr} {o:AObj} (x:ORel h R p o) (k:Keeps9 h R h' R') (h1:∀ b,h.get? p.1=some b->h'.get? p.1=some b) (h2:∀ b,h.get? p.2=some b->h'.get? p.2=some b):ORel h' R' p o:=by
 cases o with
 | list vs=>obtain ⟨us,n,e,z,g,r⟩:=x;exact ⟨us,n,e,z,h2 _ g,r.mono k⟩
 | barr b=>exact ⟨x.e,x.z,h2 _ x.g⟩
 | frz its vs=>exact ⟨x.e,x.z,h2 _ x.g,x.r.mono k⟩
 | inst c f=>obtain ⟨es,n,g1,g2,l,r⟩:=x;exact ⟨es,n,h1 _ g1,h2 _ g2,l,r.mono k⟩
theorem keeps9_of (hk:∀ b o,h.get? b=some o->h'.get? b=some o) (hr:∀ (l:Nat) (p:Addr×Addr),R[l]?=some p->R'[l]?=some p):Keeps9 h R h' R' :=
 ⟨fun _ _ ⟨o,n,e,r⟩=>⟨o,n,hk _ _ e,r⟩,fun _ _ _ _ _ _ _ r=>hk _ _ r,hr⟩
theorem keeps9_h (hk:∀ b o,h.get? b=some o->h'.get? b=some o):Keeps9 h R h' R:=keeps9_of hk fun _ _ e=>e
theorem get_app {l:Nat} {p:Addr×Addr} {r:Reg} (e:R[l]?=some p):(R++r)[l]?=some p:=by
 rw [List.getElem?_append_left (List.getElem?_eq_some_iff.mp e).1];exact e
theorem get_last {p:Addr×Addr}:(R++[p])[R.length]?=some p:=by
 rw [List.getElem?_append_right (Nat.le_refl _),Nat.sub_self];rfl
theorem keeps9_app {r:Reg} (hk:∀ b o,h.get? b=some o->h'.get? b=some o):Keeps9 h R h' (R++r):=keeps9_of hk fun _ _ e=>get_app e
theorem VRels.nil:VRels h R [] []:=⟨rfl,fun _ _ _ e=>nomatch e⟩
theorem VRels.cons {v:Value} {a:AV} {vs:List Value} {as:List AV} (x:VRel h R v a) (y:VRels h R vs as):VRels h R (v::vs) (a::as) :=
 ⟨congrArg (·+1) y.len,fun i=>match i with
  | 0=>fun _ _ e1 e2=>Option.some.inj e1▸Option.some.inj e2▸x
  | i+1=>y.ix i⟩
theorem VRels.tail {v:Value} {a:AV} {vs:List Value} {as:List AV} (x:VRels h R (v::vs) (a::as)):VRels h R vs as:=⟨Nat.succ.inj x.len,fun i=>x.ix (i+1)⟩
inductive ConsV (h:Heap) (R:Reg) (vs:List Value) (a:AV) (as:List AV):Prop
 | mk (v:Value) (us:List Value) (e:vs=v::us) (x:VRel h R v a) (r:VRels h R us as)
theorem VRels.inv {vs:List Value} {a:AV} {as:List AV} (x:VRels h R vs (a::as)):ConsV h R vs a as:=by
 cases vs with
 | nil=>exact nomatch x.len
 | cons v us=>exact ⟨v,us,rfl,x.ix 0 v a rfl rfl,x.tail⟩
theorem VRels.inv0 {vs:List Value} (x:VRels h R vs []):vs=[]:=List.length_eq_zero_iff.mp x.len
theorem VRels.inv1 {vs:List Value} {a:AV} (x:VRels h R vs [a]):∃ v,vs=[v]/\VRel h R v a:=by
 obtain ⟨v,us,rfl,y,r⟩:=x.inv
 obtain rfl:=r.inv0
 exact ⟨v,rfl,y⟩
theorem VRels.app {vs:List Value} {as:List AV} (x:VRels h R vs as) {us:List Value} {bs:List AV} (y:VRels h R us bs):VRels h R (vs++us) (as++bs):=by
 induction as generalizing vs with
 | nil=>obtain rfl:=x.inv0;exact y
 | cons a as ih=>obtain ⟨v,us,rfl,z,r⟩:=x.inv;exact .cons z (ih r)
theorem VRels.rep {v:Value} {a:AV} (x:VRel h R v a):∀ n,VRels h R (List.replicate n v) (List.replicate n a)
 | 0=>.nil
 | n+1=>.cons x (VRels.rep x n)
theorem VRels.get {vs:List Value} {as:List AV} (x:VRels h R vs as) {i:Nat} {a:AV} (e:as[i]?=some a):∃ v,vs[i]?=some v/\VRel h R v a :=
 have hi:i < vs.length:=x.len▸(List.getElem?_eq_some_iff.mp e).1
 ⟨vs[i],List.getElem?_eq_getElem hi,x.ix _ _ _ (List.getElem?_eq_getElem hi) e⟩
end
end Ab
end
section
namespace Ab
open PySem PySem.W PySem.Calls PyProof.Rows
open PySem.Sem (wp)
def okCode:Code->Bool
 | .builtin id _=>!(["bytearray.__contains__","bytearray.__mod__","bytearray.__rmod__","_struct.pack_into.held","bytearray.find.held"]++Builtin.Bytes.decodersThatHold).contains id
 | _=>true
def Zc (l:List (Code×Pos)):Prop:=∀ c∈l,okCode c.1=true
def Zx (Γ:Ctx):Prop:=okCode Γ.code=true/\Zc Γ.below
def wpP {α:Type} (M:Model) (A:Around) (t:Sem α) (Q:α->Shared->Prop) (E:Value->Shared->Prop) (s:Shared):Prop :=
 ∀ Γ p,Γ.In A->Zx Γ->wp M Γ t (fun a _ s'=>Q a s') (fun e _ s'=>E e s') p s
def codeP (M:Model) (A:Around) (c:Code) (R:Result->Shared->Prop) (s:Shared):Prop :=
 ∀ Γ p,Γ.code=c->Γ.Below A->Zc Γ.below->wpCode M Γ R p s
section
variable {α β:Type} {M:Model} {A:Around} {E:Value->Shared->Prop} {s:Shared}
theorem wpP_of {t:Sem α} {Q:α->Shared->Prop} (h:wpAny M A t Q E s):wpP M A t Q E s:=fun Γ p hΓ _=>h Γ p hΓ
theorem codeP_of {c:Code} {R:Result->Shared->Prop} (h:codeAny M A c R s):codeP M A c R s:=fun Γ p hc hΓ _=>h Γ p hc hΓ
theorem wpP_pure {a:α} {Q:α->Shared->Prop} (h:Q a s):wpP M A (pure a) Q E s:=fun _ _ _ _=>h
theorem wpP_throw {e:Value} {Q:α->Shared->Prop} (h:E e s):wpP M A (throw e:Sem α) Q E s:=fun _ _ _ _=>h
theorem wpP_mono {t:Sem α} {Q Q':α->Shared->Prop} {E':Value->Shared->Prop} (h:wpP M A t Q E s)
  (hQ:∀ a s,Q a s->Q' a s) (hE:∀ e s,E e s->E' e s):wpP M A t Q' E' s :=
 fun Γ p hΓ hZ=>Sem.wp_mono M Γ t (fun a _ s=>hQ a s) (fun e _ s=>hE e s) p s (h Γ p hΓ hZ)
theorem wpP_bind {m:Sem α} {f:α->Sem β} {Q:β->Shared->Prop} (h:wpP M A m (fun a s'=>wpP M A (f a) Q E s') E s):wpP M A (m >>= f) Q E s:=fun Γ p hΓ hZ=>by
 rw [Sem.wp_bind']
 exact Sem.wp_mono M Γ m (fun a p' s' h'=>h' Γ p' hΓ hZ) (fun _ _ _ h'=>h') p s (h Γ p hΓ hZ)
theorem wpP_tryCatch {m:Sem α} {k:Value->Sem α} {Q:α->Shared->Prop} (h:wpP M A m Q (fun e s'=>wpP M A (k e) Q E s') s):wpP M A (tryCatch m k) Q E s:=fun Γ p hΓ hZ=>by
 rw [Sem.wp_tryCatch']
 exact Sem.wp_mono M Γ m (fun _ _ _ h'=>h') (fun e p' s' h'=>h' Γ p' hΓ hZ) p s (h Γ p hΓ hZ)
theorem wpP_onRaise {m:Sem α} {k:Value->Sem Unit} {Q:α->Shared->Prop} (h:wpP M A m Q (fun e s'=>wpP M A (k e) (fun _ s''=>E e s'') E s') s):wpP M A (m.onRaise k) Q E s:=fun Γ p hΓ hZ=>by
 rw [Sem.wp_onRaise]
 exact Sem.wp_mono M Γ m (fun _ _ _ h'=>h') (fun e p' s' h'=>h' Γ p' hΓ hZ) p s (h Γ p hΓ hZ)
theorem wpP_attempt {m:Sem α} {Q:Except Value α->Shared->Prop} (h:wpP M A m (fun a=>Q (.ok a)) (fun e=>Q (.error e)) s):wpP M A m.attempt Q E s:=fun Γ p hΓ hZ=>by
 rw [Sem.wp_attempt];exact h Γ p hΓ hZ
theorem wpP_holding {vs:List Value} {m:Sem α} {Q:α->Shared->Prop} (h:wpP M A m Q E s):wpP M A (holding vs m) Q E s:=fun Γ p hΓ hZ=>by
 rw [Sem.wp_holding];exact h Γ p hΓ hZ
theorem wpP_standAt {pos:Pos} {Q:Unit->Shared->Prop} (h:Q () s):wpP M A (standAt pos) Q E s:=fun _ _ _ _=>h
theorem codeP_mono {c:Code} {R R':Result->Shared->Prop} (h:codeP M A c R s) (hR:∀ r s,R r s->R' r s):codeP M A c R' s :=
 fun Γ p hc hΓ hZ=>wpCode_mono hR (h Γ p hc hΓ hZ)
theorem Zx.enter {Γ:Ctx} (h:Zx Γ) (c:Code) (hd:Option Value) (p:Pos):Zc (Γ.enter c hd p).below:=by
 intro x hx
 rcases List.mem_cons.mp hx with rfl|hx
 ·exact h.1
 ·exact h.2 x hx
theorem wpP_run {c:Code} {h:Option Value} {Q:Flow->Shared->Prop}
  (hc:codeP M (A.mark h) c (fun r s'=>match r with|.ok f=>Q f s'|.error e=>E e s') s) (hnb:h≠some byPass:=by intro x;cases x):wpP M A (run c h) Q E s :=
 fun Γ p hΓ hZ=>by rw [Sem.wp_run];exact hc _ p rfl (hΓ.enter c h p hnb) (hZ.enter c h p)
theorem wpP_runValue {c:Code} {Q:Value->Shared->Prop}
  (hc:codeP M A c (fun r s'=>match r with|.ok (.ret v)=>Q v s'|.ok _=>False|.error e=>E e s') s):wpP M A (runValue c) Q E s :=
 fun Γ p hΓ hZ=>by rw [Sem.wp_runValue];exact hc _ p rfl (hΓ.enter c none p (by intro x;cases x)) (hZ.enter c none p)
theorem wpP_call {f:Value} {pos:List Value} {kw:List (Str×Value)} {Q:Value->Shared->Prop}
  (hc:codeP M A (.call f ⟨pos,kw⟩) (fun r s'=>match r with|.ok (.ret v)=>Q v s'|.ok _=>False|.error e=>E e s') s):wpP M A (call f pos kw) Q E s:=wpP_runValue hc
theorem codeP_of_tree {c:Code} {R:Result->Shared->Prop}
  (h:wpP M (A.under c) (M.den c) (fun fin s'=>match fin with|.done f=>R (.ok f) s'|.again c'=>c'.quiet=true/\codeP M A c' R s') (fun e s'=>R (.error e) s') s) (hk:okCode c=true):codeP M A c R s :=
 fun Γ p hc hΓ hZ=>by
  rw [wpCode_iff_wp,hc]
  refine Sem.wp_mono M Γ _ (fun fin p' s' h'=>?_) (fun _ _ _ h'=>h') p s (h Γ p (hc▸hΓ.in) ⟨hc▸hk,hZ⟩)
  cases fin with
  | done f=>exact h'
  | again c'=>exact ⟨h'.1,h'.2 (Γ.goto c') p' rfl (hΓ.goto c') hZ⟩
theorem Zx.caller:Zx ⟨.builtin "claim.caller" {},none,none,[],none⟩:=⟨by decide +kernel,fun _ h=>nomatch h⟩
end
theorem ends_atCaller {prog:Program} {w:World} {t:Sem Fin} {s:Shared} {R:Result->Shared->Prop} (hreg:s.asleep)
  (h:wpP (model prog w) callerA t (fun fin s'=>∃ f,fin=.done f/\(R (.ok f) s'/\leftWithCleanup s'.gens=false)) (fun e s'=>R (.error e) s'/\leftWithCleanup s'.gens=false) s) :
  ∃ n r s' s'',runN (denote table) prog w n s ⟨t,.builtin "claim.caller" {},default,[]⟩=.halted (outcomeOf r) s' ∧
   schedN (denote table) prog w n (.single s ⟨t,.builtin "claim.caller" {},default,[]⟩)=.halted (outcomeOf r) s'/\s'.forget=s''.forget/\R r s'':=by
 have hw:wp (model prog w) ⟨.builtin "claim.caller" {},none,none,[],none⟩ t (Sem.finPost (model prog w) ⟨.builtin "claim.caller" {},none,none,[],none⟩ fun r s'=>R r s'/\leftWithCleanup s'.gens=false)
   (fun e _ s'=>R (.error e) s'/\leftWithCleanup s'.gens=false) default s:=by
  refine Sem.wp_mono _ _ t (fun fin p' s' h'=>?_) (fun _ _ _ h'=>h') default s (h _ default caller_in Zx.caller)
  obtain ⟨f,rfl,hf⟩:=h'
  exact hf
 obtain ⟨n,r,s₁,s₂,hs,hn,hfo,hR⟩:=wp_halts_full (M:=model prog w) (R:=R) hreg hw
 exact ⟨n,r,s₂,s₁,hn,hs,hfo,hR⟩
theorem callFromP {c:ClaimW} {tree:List Value->Sem Fin} {w:World} {s:Shared} {free:Addr->Prop} {gens:Prop} {kept:Heap->Prop} (hz:s.asleep) (hgens:s.gens=#[])
  (hspec:∀ args,c.pre args=true->WData.layableAll args=true->∀ ord:List DictEntry->List DictEntry,(∀ l,(ord l).Perm l) →
   ∃ vs s₁,layAllW c.records (classAt s.heap) w.params ord args s=some (vs,s₁) ∧
    wpP (model c.prog w) callerA (tree vs) (fun fin s'=>∃ f,fin=.done f/\(c.Ends s args vs s₁ (.ok f) s'/\s'.os=s.os/\AllBare s'.gens/\kept s'.heap))
     (fun e s'=>c.Ends s args vs s₁ (.error e) s'/\s'.os=s.os/\AllBare s'.gens/\kept s'.heap) s₁) :
  c.CallFrom (fun vs=>⟨tree vs,.builtin "claim.caller" {},default,[]⟩) w free gens kept s:=by
 intro args hpre hlay ord hord
 obtain ⟨vs,s₁,hlaid,hcode⟩:=hspec args hpre hlay ord hord
 have hal:=layAllW_rest _ _ _ hlaid
 obtain ⟨k,r,s',s'',hrun,hsched,hfo,hcase,hos,hkp⟩:=ends_atCaller (prog:=c.prog) (w:=w) (t:=tree vs) (s:=s₁) (R:=fun r s'=>c.Ends s args vs s₁ r s'/\s'.os=s.os/\kept s'.heap)
  (Shared.asleep_of_life hal.2.2.2 hz)
  (wpP_mono hcode (fun _ _ ⟨f,e,h1,h2,h3,h4⟩=>⟨f,e,⟨h1,h2,h4⟩,leftWithCleanup_false_of_bare h3⟩) fun _ _ ⟨h1,h2,h3,h4⟩=>⟨⟨h1,h2,h4⟩,leftWithCleanup_false_of_bare h3⟩)
 obtain ⟨eh,_,_,eo,_⟩:=Shared.forget_eq hfo
 have hcase:=hcase.congr eh
 have hkp:kept s'.heap:=by rw [eh];exact hkp
 rw [<-eo] at hos
 have hlife:s'.heap.life=s.heap.life:=(runN_life _ _ _ hrun).trans hal.2.2.2
 refine ⟨vs,s₁,hlaid,k,_,s',hsched,?_,(fun _ i x hx=>by rw [hgens] at hx;simp at hx),hkp,by rw [hlife],Shared.rest_eq hos⟩
 rcases hcase with ⟨v,rfl,d1,d2,d3,d4,d5⟩|⟨e,ob,cls,rfl,d1,d2,d3,d4,d5⟩
 ·exact .inl ⟨v,rfl,d1,d2,d3,fun b o y _=>d4 b o y,d5⟩
 ·exact .inr ⟨e,ob,cls,rfl,d1,d2,d3,d4,fun b o y _=>d5 b o y⟩
abbrev WalkP (q:Program) (loose:List Str) (XP:(Str->Option Value)->Heap->Prop) (YP:World->Heap->Prop) (r:RowW) (d:DefRec) (kwd:List (Str×Expr)) (run:Value->List Value->Sem Value):Prop :=
 ∀ (w:World) (s₀ s₁:Shared) (mg mb:Str->Option Value),Ground q loose r.records XP w s₀ mg mb s₁.heap->YP w s₁.heap->∀ (a:Addr) (o:Obj) (pm cd doc dV kV:Value),s₁.heap.get? a=some o →
  o.data=.func { docDef d.name d.params d.body d.scope pm cd doc with defaults:=dV,kwdefaults:=kV }->s₁.heap.CodeRec cd d.name->Dflts mg s₁.heap d.params kwd dV kV->mg d.name=some (.ref a)->s₁.gens=#[] →
  ∀ (args:List WData) (vals:List Value) (as:List Addr),r.claim.pre args=true->WData.layableAll args=true->ReadsAllW r.records (classAt s₀.heap) s₁.heap vals args as->WellAll w.params s₁.heap vals args->(∀ a∈as,(a==sysModules)=false) →
   wpP (model r.prog w) callerA (run (.ref a) vals) (fun v s'=>GoodWG r.claim (classAt s₀.heap) (ExcName.means s₀.heap) args s₁ (.ok (.ret v)) s')
    (fun e s'=>GoodWG r.claim (classAt s₀.heap) (ExcName.means s₀.heap) args s₁ (.error e) s') s₁
end Ab
namespace Hd
open Ab PySem PySem.W PySem.Calls PyProof.Rows
theorem PySem.W.holds_open {r:OpenRow} {q:Program} {loose:List Str} {Xt:Shared->Bool} {XP:(Str->Option Value)->Heap->Prop} {α:Type} {Yf:Shared->α} {Ya:World->α} {YP:World->Heap->Prop} {d:DefRec} {kwd:List (Str×Expr)} {N:Nat}
  (left:LeftO r.prog q loose Xt Yf Ya N) (hY:∀ w s,Yf s=Ya w->YP w s.heap) (hYk:∀ w h h',YP w h->(∀ b o,h.get? b=some o->h'.get? b=some o)->YP w h')
  (hX:∀ s,Xt s=true->XP (s.heap.nsMap mainGlobals) s.heap) (hXk:∀ mg h h',XP mg h->(∀ b o,h.get? b=some o->h'.get? b=some o)->XP mg h')
  (hdef:defOf q r.name=some (d,kwd)) (hp:r.prog.theDef r.name=some (d.params,d.body,d.scope)) (hk:kwWritten? d.params.kwonlyargs d.params.kw_defaults=some kwd) (hRf:∀ s,Xt s=true->RecFacts r.records s.heap) (hwr:(!r.writes || r.records.isEmpty)=true)
  (k1:r.wellSaid=true) (ok:(chainsOk q&&opensWell r.prog&&(frees r.toRowW&&r.within.isEmpty))=true) (hb:r.prog.bare) (hw:r.toRowW.promised)
  (call:WalkP q loose XP YP r.toRowW d kwd fun f vs=>PySem.call f vs):r.Holds:=by
 obtain ⟨ok,k5⟩:=Bool.and_eq_true_iff.mp ok
 obtain ⟨hch,o1⟩:=Bool.and_eq_true_iff.mp ok
 obtain ⟨k5,k6⟩:=Bool.and_eq_true_iff.mp k5
 obtain ⟨hsame,hu,ha,hap,hm⟩:=frees_parts k5
 refine ⟨k1,hw,⟨hb,o1,by show r.makers.map _=[];rw [hm];rfl⟩,hw.witness,fun w=>⟨(left.behind hX hch w).1,fun s' hs'=>?_⟩⟩
 obtain ⟨s₀,hf,hg0,s,hT,hz,hgens,hg,G00,y⟩:=(left.behind (XP:=fun mg h=>XP mg h/\RecFacts r.records h) (fun s hs=>⟨hX s hs,hRf s hs⟩) hch w).2 s' hs'
 have G0:Ground q loose [] XP w s (s.heap.nsMap mainGlobals) (s.heap.nsMap builtinsNs) s.heap:=⟨G00.T,G00.B,G00.D,G00.TE,G00.TD,G00.W,G00.X.1,G00.cls,G00.has,G00.apart,G00.once,G00.K⟩
 have RF:=G00.X.2
 have hT':=hT
 have hgens:s.gens=#[]:=Array.eq_empty_of_size_eq_zero (beq_iff_eq.mp hgens)
 have G:Ground q loose r.records XP w s _ _ s.heap:=RF.ground G0
 refine ⟨s₀,hf,hg0,s,hT,fun n hn=>?_,RF.1,RF.2.1,callFromP (c:=r.claim) hz hgens fun args hpre hlay ord hord=>?_⟩
 ·obtain rfl:n=r.name:=by split at hn <;> simp_all
  exact pinned_of_view hg G0 hdef hp hk
 ·obtain ⟨⟨vs,s₁⟩,hlaid⟩:=Option.isSome_iff_exists.mp (layAllW_isSome (P:=w.params) (ord:=ord) G.has args r.args s (pre_splitW hpre).1)
  have keeps:=layAllW_keeps _ _ _ hlaid
  have hal:=layAllW_rest _ _ _ hlaid
  obtain ⟨as,hrd,hin,hold⟩:=reads_layAllW hord _ _ _ hlaid hlay s₁.heap (fun _ _ e=>e)
  have L:Laid r.records w s s₁ args vs as:=⟨⟨ord,hord,hlaid⟩,hrd,hin,hold,keeps,hal.1.trans hgens,hal.2.2.1⟩
  have G₁:=G.keeps hXk keeps
  obtain ⟨a,o,pm,cd,doc,dV,kV,h1,h2,h3,h4,h5⟩:=G₁.fn hdef
  have h:=call w s s₁ _ _ G₁ (hYk _ _ _ (hY w s y) keeps) a o pm cd doc dV kV h2 h3 h4 h5 (defOf_name hdef▸h1) L.gens args vs as hpre hlay L.reads L.well (L.low G.low)
  have hi:=ident_freeW hu ha hap
  have hwi:r.claim.within=[]:=List.isEmpty_iff.mp k6
  refine ⟨vs,s₁,hlaid,?_⟩
  refine wpP_bind (wpP_of (wpAny_nsGet G₁.T.g ?_))
  rw [h1]
  refine fun Γ p hΓ hZ=>?_
  exact wpP_bind (wpP_mono h (fun v s' g=>wpP_pure ⟨_,rfl,have z:=g.laid (c:=r.claim) hsame hwi hi L;⟨z.1,z.2.1,z.2.2,fun q=>⟨namesKept_of hT' hg _ keeps g.2.1.old,noTable hwr q⟩⟩⟩)
   fun e s' g=>have z:=g.laid (c:=r.claim) hsame hwi hi L;⟨z.1,z.2.1,z.2.2,fun q=>⟨namesKept_of hT' hg _ keeps g.2.1.old,noTable hwr q⟩⟩) Γ p hΓ hZ
end Hd
end
section
set_option genInjectivity false
namespace Ab
open PySem PySem.W PyProof.Rows
noncomputable abbrev Cx.M (Γ:Cx):Model:=model Γ.G.prog Γ.G.w
def isCellK (k:Option NameKind):Prop:=k=some .cell\/k=some .free
inductive NsRel (h:Heap) (R:Reg) (env:Env) (names:List String) (fr:List (Option AV)):Prop
 | mk (m:Str->Option Value) (n:h.Ns env.locals m) (r:∀ (i:Nat) (x:String) (a:AV),names[i]?=some x->fr[i]?=some (some a)->env.scope.names.lookup (Str.ofString x)=some .local->∃ v,m (Str.ofString x)=some v/\VRel h R v a)
inductive CelRel (h:Heap) (R:Reg) (env:Env) (x:String) (fr:List (Option AV)) (i:Nat):Prop
 | mk (c:Addr) (o:Obj) (ov:Option Value) (e:env.cells.lookup (Str.ofString x)=some c) (g:h.get? c=some o) (d:o.data=.cell ov) (r:∀ a:AV,fr[i]?=some (some a)->∃ v,ov=some v/\VRel h R v a)
structure FrRel (h:Heap) (R:Reg) (env:Env) (names:List String) (fr:List (Option AV)):Prop where
 len:fr.length=names.length
 ns:NsRel h R env names fr
 cel:∀ (i:Nat) (x:String),names[i]?=some x->isCellK (env.scope.names.lookup (Str.ofString x))->CelRel h R env x fr i
structure FxOk (X:Fx):Prop where
 kind:X.env.scope.kind=.function
 globals:X.env.globals=mainGlobals
 builtins:X.env.builtins=builtinsNs
 nodup:X.names.Nodup
 loc:X.env.locals∈X.cur
 cells:∀ x c,X.env.cells.lookup x=some c->c∈X.own
 cellNe:∀ x c,X.env.cells.lookup x=some c->c≠X.env.locals
 cellInj:∀ x y c,X.env.cells.lookup x=some c->X.env.cells.lookup y=some c->x=y
 chainIn:∀ env∈X.chain,∀ L,env.frame=some L->L∈X.own
structure FnFx (X:Fx):Prop where
 chain:∃ outer,X.chain=X.env::outer
 frame:X.env.frame=some X.env.locals
 cellCur:∀ x c,X.env.scope.names.lookup x=some .cell->X.env.cells.lookup x=some c->c∈X.cur
inductive TrAt (h0 h:Heap) (fl:Option Addr) (e:Addr) (x:Option Value):Prop
 | no (q:x=some .none)
 | tr (T:Addr) (oT:Obj) (ts:Array Value) (q:x=some (.ref T)) (ne:T≠e) (new:h0.get? T=none) (g:h.get? T=some oT) (d:oT.data=.fields ts) (at':ts[3]?=some .none\/∃ L,fl=some L/\ts[3]?=some (rawInt L))
inductive ExcAt (h0 h:Heap) (fl:Option Addr) (x:Value) (C:Addr):Prop
 | mk (e:Addr) (oe:Obj) (vs:Array Value) (q:x=.ref e) (new:h0.get? e=none) (g:h.get? e=some oe) (c:oe.cls=.ref C) (d:oe.data=.fields vs) (l:1 < vs.size) (t:TrAt h0 h fl e vs[1]?)
theorem ExcAt.mono {h0 h1 h:Heap} {fl:Option Addr} {x:Value} {C:Addr} (hl:∀ b,(h0.get? b).isSome->(h1.get? b).isSome) (z:ExcAt h1 h fl x C):ExcAt h0 h fl x C:=by
 obtain ⟨e,oe,vs,q,n,g,c,d,l,t⟩:=z
 refine ⟨e,oe,vs,q,get_none hl n,g,c,d,l,?_⟩
 cases t with
 | no q=>exact .no q
 | tr T oT ts q ne n g d a=>exact .tr T oT ts q ne (get_none hl n) g d a
structure Pre (Γ:Cx) (s:Shared) (R:Reg) (st:St):Prop where
 gens:s.gens=#[]
 sat:Sat Γ R s.heap st.H
 fr:FrRel s.heap R Γ.X.env Γ.X.names st.fr
 ff:s.heap.FunFrames Γ.G.B Γ.X.chain
structure After (Γ:Cx) (s:Shared) (R:Reg) (s':Shared) (R':Reg) (st':St):Prop where
 eq:s'={ s with heap:=s'.heap,toks:=s'.toks }
 pre:Pre Γ s' R' st'
 step:Step Γ.X R s.heap R' s'.heap
abbrev Rl (β α:Type):=Heap->Reg->β->α->Prop
abbrev PT (α:Type):=(α->St->Prop)->KX->Prop
inductive Lift {α β:Type} (Γ:Cx) (rel:Rl β α) (s:Shared) (R:Reg) (Q:α->St->Prop) (b:β) (s':Shared):Prop
 | mk (a:α) (st':St) (R':Reg) (hq:Q a st') (af:After Γ s R s' R' st') (rl:rel s'.heap R' b a)
inductive LiftE (Γ:Cx) (s:Shared) (R:Reg) (E:KX) (x:Value) (s':Shared):Prop
 | mk (c:Nat) (st':St) (R':Reg) (he:E c st') (af:After Γ s R s' R' st') (ex:ExcAt s.heap s'.heap Γ.X.env.frame x (CA c))
def SimAt {α β:Type} (Γ:Cx) (rel:Rl β α) (t:Sem β) (p:PT α) (s:Shared) (R:Reg):Prop :=
 ∀ Q E,p Q E->wpP Γ.M Γ.A t (Lift Γ rel s R Q) (LiftE Γ s R E) s
section
variable {Γ:Cx} {s s' s'':Shared} {R R' R'':Reg} {st st' st'':St}
theorem After.trans (x:After Γ s R s' R' st') (y:After Γ s' R' s'' R'' st''):After Γ s R s'' R'' st'':=⟨by rw [y.eq,x.eq],y.pre,x.step.trans y.step⟩
section
variable {α β γ δ:Type} {rel:Rl β α} {rel':Rl δ γ} {t:Sem β} {p:PT α}
theorem Lift.after {Q:α->St->Prop} {b:β} (x:After Γ s R s' R' st') (y:Lift Γ rel s' R' Q b s''):Lift Γ rel s R Q b s'' :=
 y.casesOn fun a st R h af rl=>⟨a,st,R,h,x.trans af,rl⟩
theorem LiftE.after {E:KX} {b:Value} (x:After Γ s R s' R' st') (y:LiftE Γ s' R' E b s''):LiftE Γ s R E b s'' :=
 y.casesOn fun a st R h af rl=>⟨a,st,R,h,x.trans af,rl.mono x.step.live⟩
theorem SimAt.bind {f:β->Sem δ} {g:α->St->PT γ} (h1:SimAt Γ rel t p s R)
  (h2:∀ b s1 a st1 R1,After Γ s R s1 R1 st1->rel s1.heap R1 b a->SimAt Γ rel' (f b) (g a st1) s1 R1) :
  SimAt Γ rel' (t >>= f) (fun Q E=>p (fun a st=>g a st Q E) E) s R:=fun Q E hp =>
 wpP_bind (wpP_mono (h1 _ _ hp) (fun b s1 x=>x.casesOn fun a st1 R1 hq af rl=>wpP_mono (h2 b s1 a st1 R1 af rl Q E hq) (fun _ _=>Lift.after af) fun _ _=>LiftE.after af) fun _ _ x=>x)
theorem SimAt.holding {vs:List Value} (h:SimAt Γ rel t p s R):SimAt Γ rel (holding vs t) p s R:=fun Q E hp=>wpP_holding (h Q E hp)
theorem SimAt.standAt {q:Pos} {f:Unit->Sem β} (h:SimAt Γ rel (f ()) p s R):SimAt Γ rel (standAt q >>= f) p s R:=fun Q E hp=>wpP_bind (wpP_standAt (h Q E hp))
theorem SimAt.pureBind {b:δ} {f:δ->Sem β} (h:SimAt Γ rel (f b) p s R):SimAt Γ rel ((pure b:Sem δ) >>= f) p s R:=fun Q E hp=>wpP_bind (wpP_pure (h Q E hp))
theorem SimAt.weaken {rel'':Rl β α} (h:SimAt Γ rel t p s R) (hr:∀ h R b a,rel h R b a->rel'' h R b a):SimAt Γ rel'' t p s R :=
 fun Q E hp=>wpP_mono (h Q E hp) (fun _ _ x=>x.casesOn fun a st R h af rl=>⟨a,st,R,h,af,hr _ _ _ _ rl⟩) fun _ _ x=>x
theorem SimAt.bindSem {t:Sem δ} {f:δ->Sem β}
  (h1:∀ {Q:δ->Shared->Prop} {E:Value->Shared->Prop},(∀ d s1,After Γ s R s1 R st->Q d s1)->wpAny Γ.M Γ.A t Q E s)
  (h2:∀ d s1,After Γ s R s1 R st->SimAt Γ rel (f d) p s1 R):SimAt Γ rel (t >>= f) p s R:=fun Q E hp =>
 wpP_bind (wpP_of (h1 fun d s1 af=>wpP_mono (h2 d s1 af Q E hp) (fun _ _=>Lift.after af) fun _ _=>LiftE.after af))
theorem SimAt.and {c:Prop} (h:c->SimAt Γ rel t p s R):SimAt Γ rel t (fun Q E=>c/\p Q E) s R:=fun Q E hp=>h hp.1 Q E hp.2
theorem SimAt.no:SimAt Γ rel t (fun _ _=>False) s R:=fun _ _ hp=>hp.elim
theorem SimAt.skip {t:Sem Unit} {f:Unit->Sem β} (ht:∀ {Q:Unit->Shared->Prop} {E:Value->Shared->Prop},Q () s->wpAny Γ.M Γ.A t Q E s) (h:SimAt Γ rel (f ()) p s R):SimAt Γ rel (t >>= f) p s R :=
 fun Q E hp=>wpP_bind (wpP_of (ht (h Q E hp)))
theorem SimAt.skipPure {k:β->Sem Unit} (hk:∀ {Q:Unit->Shared->Prop} {E:Value->Shared->Prop} (v:β) (s:Shared),Q () s->wpAny Γ.M Γ.A (k v) Q E s) (h:SimAt Γ rel t p s R):SimAt Γ rel (t >>= fun v=>k v >>= fun _=>pure v) p s R :=
 fun Q E hp=>wpP_bind (wpP_mono (h Q E hp) (fun v s' hv=>wpP_bind (wpP_of (hk v s' (wpP_pure hv)))) fun _ _ x=>x)
theorem SimAt.operate {rel:Rl Value α} {vs:List Value} {t:Sem Value} (h:SimAt Γ rel t p s R):SimAt Γ rel (operate vs t) p s R:=by
 unfold PySem.operate
 exact SimAt.skipPure (t:=PySem.holding vs t) (k:=fun r=>release vs [r]) (fun v s h=>wpAny_release h) h.holding
end
theorem FrRel.keepAll {h h':Heap} {env:Env} {names:List String} {fr:List (Option AV)} (x:FrRel h R env names fr) (hk:∀ b o,h.get? b=some o->h'.get? b=some o) (k:Keeps9 h R h' R'):FrRel h' R' env names fr :=
 ⟨x.len,x.ns.casesOn fun m n r=>⟨m,n.keeps hk,fun i y a e1 e2 e3=>(r i y a e1 e2 e3).elim fun v q=>⟨v,q.1,q.2.mono k⟩⟩,
  fun i y e1 e2=>(x.cel i y e1 e2).casesOn fun c o ov e g d r=>⟨c,o,ov,e,hk _ _ g,d,fun a q=>(r a q).elim fun v q=>⟨v,q.1,q.2.mono k⟩⟩⟩
theorem Sat.keepAll {h h':Heap} {H:AH} (x:Sat Γ R h H) (hk:∀ b o,h.get? b=some o->h'.get? b=some o):Sat Γ R h' H :=
 ⟨fun b o e=>hk _ _ (x.keep b o e),x.newR,x.newC,x.nodup,x.inj,x.len,fun i p o e1 e2=>(x.objs i p o e1 e2).mono (keeps9_h hk) (fun _ e=>hk _ _ e) fun _ e=>hk _ _ e,
  fun a ha=>(x.frs a ha).casesOn fun o g f=>⟨o,hk _ _ g,f⟩⟩
theorem After.keepAll {h':Heap} {tk:Nat} (P:Pre Γ s R st) (hk:∀ b o,s.heap.get? b=some o->h'.get? b=some o):After Γ s R { s with heap:=h',toks:=tk } R st :=
 ⟨rfl,⟨P.gens,P.sat.keepAll hk,P.fr.keepAll hk (keeps9_h hk),P.ff.of_keeps fun b o e _=>⟨o,hk _ _ e,rfl⟩⟩,.keepAll hk⟩
theorem After.refl (P:Pre Γ s R st):After Γ s R s R st:=After.keepAll (tk:=s.toks) P fun _ _ e=>e
theorem After.toks {tk:Nat} (P:Pre Γ s R st):After Γ s R { s with toks:=tk } R st:=After.keepAll (h':=s.heap) P fun _ _ e=>e
theorem After.push {o:Obj} {tk:Nat} (P:Pre Γ s R st):After Γ s R { s with heap:=s.heap.push o,toks:=tk } R st:=After.keepAll P fun _ _ e=>Heap.get?_push_of_some _ e
section
variable {α β γ δ:Type} {rel:Rl β α} {rel':Rl δ γ} {t:Sem β} {p:PT α}
theorem SimAt.ok {b:β} {a:α} (P:Pre Γ s R st) (h:rel s.heap R b a):SimAt Γ rel (pure b) (fun Q _=>Q a st) s R:=fun _ _ hp=>wpP_pure ⟨a,st,R,hp,.refl P,h⟩
theorem SimAt.leaf {a:α} (P:Pre Γ s R st)
  (h:∀ {Q:β->Shared->Prop} {E:Value->Shared->Prop},(∀ b tk,rel s.heap R b a->Q b { s with toks:=tk })->wpAny Γ.M Γ.A t Q E s):SimAt Γ rel t (fun Q _=>Q a st) s R :=
 fun _ _ hp=>wpP_of (h fun b tk hb=>⟨a,st,R,hp,After.toks P,hb⟩)
theorem SimAt.rule (h:∀ (Q:α->St->Prop) (E:KX),p Q E->wpAny Γ.M Γ.A t (Lift Γ rel s R Q) (LiftE Γ s R E) s):SimAt Γ rel t p s R:=fun Q E hp=>wpP_of (h Q E hp)
theorem SimAt.map {f:β->δ} {g:α->γ} (h:SimAt Γ rel t p s R) (hg:∀ h R b a,rel h R b a->rel' h R (f b) (g a)):SimAt Γ rel' (t >>= fun v=>pure (f v)) (fun Q E=>p (fun a st=>Q (g a) st) E) s R :=
 SimAt.bind h fun _ _ _ _ _ af rl=>SimAt.ok af.pre (hg _ _ _ _ rl)
theorem SimAt.isInt {a:AV} {k:Int->PT α} (h:∀ i,a=.int i->SimAt Γ rel t (k i) s R):SimAt Γ rel t (fun Q E=>a.isInt fun i=>k i Q E) s R:=fun Q E hp=>by
 cases a with
 | int i=>exact h i rfl Q E hp
 | _=>exact hp.elim
theorem SimAt.isBool {a:AV} {k:Bool->PT α} (h:∀ i,a=.bool i->SimAt Γ rel t (k i) s R):SimAt Γ rel t (fun Q E=>a.isBool fun i=>k i Q E) s R:=fun Q E hp=>by
 cases a with
 | bool i=>exact h i rfl Q E hp
 | _=>exact hp.elim
theorem SimAt.isBytes {a:AV} {k:List UInt8->PT α} (h:∀ i,a=.bytes i->SimAt Γ rel t (k i) s R):SimAt Γ rel t (fun Q E=>a.isBytes fun i=>k i Q E) s R:=fun Q E hp=>by
 cases a with
 | bytes i=>exact h i rfl Q E hp
 | _=>exact hp.elim
theorem SimAt.isTup {a:AV} {k:List AV->PT α} (h:∀ i,a=.tup i->SimAt Γ rel t (k i) s R):SimAt Γ rel t (fun Q E=>a.isTup fun i=>k i Q E) s R:=fun Q E hp=>by
 cases a with
 | tup i=>exact h i rfl Q E hp
 | _=>exact hp.elim
theorem SimAt.isRef {a:AV} {k:Nat->PT α} (h:∀ i,a=.ref i->SimAt Γ rel t (k i) s R):SimAt Γ rel t (fun Q E=>a.isRef fun i=>k i Q E) s R:=fun Q E hp=>by
 cases a with
 | ref i=>exact h i rfl Q E hp
 | _=>exact hp.elim
theorem SimAt.nt {a:AV} {k:Nat->PT α} (h:∀ n:Nat,a=.int (n:Int)->SimAt Γ rel t (k n) s R):SimAt Γ rel t (fun Q E=>Nt a fun i=>k i Q E) s R:=fun Q E hp =>
 (Nt.elim hp).elim fun n q=>h n q.1 Q E q.2
theorem SimAt.lst {H:AH} {l:Nat} {k:List AV->PT α} (h:∀ xs,H[l]?=some (.list xs)->SimAt Γ rel t (k xs) s R):SimAt Γ rel t (fun Q E=>Lst H l fun xs=>k xs Q E) s R:=fun Q E hp =>
 hp.casesOn fun n e x=>h n e Q E x
theorem SimAt.bar {H:AH} {l:Nat} {k:List UInt8->PT α} (h:∀ xs,H[l]?=some (.barr xs)->SimAt Γ rel t (k xs) s R):SimAt Γ rel t (fun Q E=>Bar H l fun xs=>k xs Q E) s R:=fun Q E hp =>
 hp.casesOn fun n e x=>h n e Q E x
theorem SimAt.ins {H:AH} {l:Nat} {k:Nat->List (Nat×AV)->PT α} (h:∀ c fs,H[l]?=some (.inst c fs)->SimAt Γ rel t (k c fs) s R):SimAt Γ rel t (fun Q E=>Ins H l fun c fs=>k c fs Q E) s R:=fun Q E hp =>
 hp.casesOn fun c fs e x=>h c fs e Q E x
theorem SimAt.opt {γ:Type} {o:Option γ} {k:γ->PT α} (h:∀ a,o=some a->SimAt Γ rel t (k a) s R):SimAt Γ rel t (fun Q E=>optP o fun a=>k a Q E) s R:=fun Q E hp=>by
 cases o with
 | some a=>exact h a rfl Q E hp
 | none=>exact hp.elim
theorem SimAt.at {γ:Type} {xs:List γ} {n:Nat} {k:γ->PT α} (h:∀ a,xs[n]?=some a->SimAt Γ rel t (k a) s R):SimAt Γ rel t (fun Q E=>At xs n fun a=>k a Q E) s R:=fun Q E hp =>
 hp.casesOn fun a e x=>h a e Q E x
theorem SimAt.ex {γ:Type} {k:γ->PT α} (h:∀ a,SimAt Γ rel t (k a) s R):SimAt Γ rel t (fun Q E=>∃ a,k a Q E) s R:=fun Q E hp=>hp.elim fun a x=>h a Q E x
theorem SimAt.or {p1 p2:PT α} (h1:SimAt Γ rel t p1 s R) (h2:SimAt Γ rel t p2 s R):SimAt Γ rel t (fun Q E=>p1 Q E\/p2 Q E) s R:=fun Q E hp=>hp.elim (h1 Q E) (h2 Q E)
theorem SimAt.one {vs:List AV} {k:AV->PT α} (h:∀ a,vs=[a]->SimAt Γ rel t (k a) s R):SimAt Γ rel t (fun Q E=>oneP vs fun a=>k a Q E) s R:=fun Q E hp=>by
 match vs,hp with
 | [a],hp=>exact h a rfl Q E hp
theorem SimAt.two {vs:List AV} {k:AV->AV->PT α} (h:∀ a b,vs=[a,b]->SimAt Γ rel t (k a b) s R):SimAt Γ rel t (fun Q E=>twoP vs fun a b=>k a b Q E) s R:=fun Q E hp=>by
 match vs,hp with
 | [a,b],hp=>exact h a b rfl Q E hp
end
end
end Ab
end
section
namespace Ab
open PySem PySem.W PyProof.Rows
theorem ofString_inj {a b:String} (h:Str.ofString a=Str.ofString b):a=b:=by
 rw [Str.ofString_eq_toList,Str.ofString_eq_toList] at h
 refine String.toList_inj.mp ((List.map_inj_right (f:=Char.toNat) fun x y e=>Char.toNat_inj.mp e).mp ?_)
 exact congrArg Array.toList (congrArg Str.cps h)
theorem names_inj {names:List String} (hn:names.Nodup) {i j:Nat} {x:String} (h1:names[i]?=some x) (h2:names[j]?=some x):i=j :=
 (List.getElem?_inj (List.getElem?_eq_some_iff.mp h1).1 hn).mp (h1.trans h2.symm)
theorem get_size_none (h:Heap):h.get? h.objs.size=none:=Heap.get?_none_of_le (Nat.le_refl _)
theorem inj_some {α:Type} {x:Option α} {a b:α} (e:x=some a) (f:x=some b):a=b:=Option.some.inj (e.symm.trans f)
section
variable {Γ:Cx} {s s' s'':Shared} {R R' R'':Reg} {st st' st'':St} {h h':Heap} {H:AH}
theorem ORel.live1 {p:Addr×Addr} {o:AObj} (x:ORel h R p o):(h.get? p.1).isSome:=by
 cases o with
 | list vs=>obtain ⟨us,n,e,z,g,r⟩:=x;rw [e,g];rfl
 | barr b=>rw [x.e,x.g];rfl
 | frz its vs=>rw [x.e,x.g];rfl
 | inst c f=>obtain ⟨es,n,g,d,l,r⟩:=x;rw [g];rfl
inductive RegObj:Obj->Prop
 | list (us:Array Value) (n:Nat):RegObj (listOf us n)
 | barr (b:Array UInt8):RegObj { cls:=.type "bytearray",data:=.bytearray b 0 }
 | dict (es:List DictEntry) (n:Nat):RegObj (dictOf es n)
inductive RegAt (h:Heap) (a:Addr):Prop
 | mk (o:Obj) (g:h.get? a=some o) (r:RegObj o)
theorem ORel.at2 {p:Addr×Addr} {o:AObj} (x:ORel h R p o):RegAt h p.2:=by
 cases o with
 | list vs=>obtain ⟨us,n,e,z,g,r⟩:=x;exact ⟨_,g,.list _ _⟩
 | barr b=>exact ⟨_,x.g,.barr _⟩
 | frz its vs=>exact ⟨_,x.g,.list _ _⟩
 | inst c f=>obtain ⟨es,n,g,d,l,r⟩:=x;exact ⟨_,d,.dict _ _⟩
theorem Sat.rel (x:Sat Γ R h H) {l:Nat} {p:Addr×Addr} (e:R[l]?=some p):∃ o,H[l]?=some o/\ORel h R p o :=
 have hl:l < H.length:=x.len▸(List.getElem?_eq_some_iff.mp e).1
 ⟨H[l],List.getElem?_eq_getElem hl,x.objs l p _ e (List.getElem?_eq_getElem hl)⟩
theorem Sat.at (x:Sat Γ R h H) {l:Nat} {a b:Addr} {o:AObj} (g:R[l]?=some (a,b)) (e:H[l]?=some o):ORel h R (a,b) o:=x.objs l _ _ g e
theorem mem_reg {b:Addr} (hm:b∈R.map (·.2)):∃ (l:Nat) (a:Addr),R[l]?=some (a,b):=by
 obtain ⟨p,hp,rfl⟩:=List.mem_map.mp hm
 obtain ⟨i,hi⟩:=List.getElem?_of_mem hp
 exact ⟨i,p.1,hi⟩
theorem mem_snd {l:Nat} {p:Addr×Addr} (e:R[l]?=some p):p.2∈R.map (·.2):=List.mem_map.mpr ⟨p,List.mem_of_getElem? e,rfl⟩
theorem Sat.regAt (x:Sat Γ R h H) {b:Addr} (hm:b∈R.map (·.2)):RegAt h b :=
 (mem_reg hm).elim fun _ q=>q.elim fun _ e=>(x.rel e).elim fun _ q=>q.2.at2
theorem Sat.free (I:Sat Γ R h H) {b:Addr} {o:Obj} (e:h.get? b=some o) (h1:¬ RegObj o) (h2:¬ FrObj o):b∉R.map (·.2)/\b∉Γ.X.own :=
 ⟨fun hm=>(I.regAt hm).casesOn fun _ g r=>h1 (inj_some g e▸r),fun hm=>(I.frs b hm).casesOn fun _ g f=>h2 (inj_some g e▸f)⟩
theorem no_reg {o:Obj} (h1:∀ vs n,o.cls=.type "list"->o.data=.seq vs n->False) (h2:∀ b n,o.data=.bytearray b n->False) (h3:∀ es n,o.data=.dict es n->False):¬ RegObj o:=fun r=>by
 cases r with
 | list us n=>exact h1 _ _ rfl rfl
 | barr b=>exact h2 _ _ rfl
 | dict es n=>exact h3 _ _ rfl
theorem Sat.free_tup (I:Sat Γ R h H) {b:Addr} {o:Obj} {vs:Array Value} {n:Nat} (e:h.get? b=some o) (hc:o.cls=.type "tuple") (hd:o.data=.seq vs n):b∉R.map (·.2)/\b∉Γ.X.own :=
 I.free e (no_reg (fun _ _ q _=>absurd (q.symm.trans hc) (by decide)) (fun _ _ q=>nomatch q.symm.trans hd) fun _ _ q=>nomatch q.symm.trans hd)
  fun q=>q.elim (fun ⟨_,_,q⟩=>nomatch q.symm.trans hd) fun ⟨_,q⟩=>nomatch q.symm.trans hd
theorem Sat.free_fields (I:Sat Γ R h H) {b:Addr} {o:Obj} {vs:Array Value} (e:h.get? b=some o) (hd:o.data=.fields vs):b∉R.map (·.2)/\b∉Γ.X.own :=
 I.free e (no_reg (fun _ _ _ q=>nomatch q.symm.trans hd) (fun _ _ q=>nomatch q.symm.trans hd) fun _ _ q=>nomatch q.symm.trans hd)
  fun q=>q.elim (fun ⟨_,_,q⟩=>nomatch q.symm.trans hd) fun ⟨_,q⟩=>nomatch q.symm.trans hd
theorem Sat.free_plain (I:Sat Γ R h H) {b:Addr} {o:Obj} (e:h.get? b=some o) (hd:o.data=.plain):b∉R.map (·.2)/\b∉Γ.X.own :=
 I.free e (no_reg (fun _ _ _ q=>nomatch q.symm.trans hd) (fun _ _ q=>nomatch q.symm.trans hd) fun _ _ q=>nomatch q.symm.trans hd)
  fun q=>q.elim (fun ⟨_,_,q⟩=>nomatch q.symm.trans hd) fun ⟨_,q⟩=>nomatch q.symm.trans hd
theorem Sat.snd_ne (x:Sat Γ R h H) {l k:Nat} {p q:Addr×Addr} (e:R[l]?=some p) (e':R[k]?=some q) (hne:k≠l):q.2≠p.2:=fun hq =>
 have h1:(R.map (·.2))[l]?=some p.2:=by rw [List.getElem?_map,e];rfl
 have h2:(R.map (·.2))[k]?=some p.2:=by rw [List.getElem?_map,e',<-hq];rfl
 hne ((List.getElem?_inj (List.getElem?_eq_some_iff.mp h2).1 (List.nodup_append.mp x.nodup).1).mp (h2.trans h1.symm))
theorem Sat.snd_own (x:Sat Γ R h H) {l:Nat} {p:Addr×Addr} (e:R[l]?=some p) {b:Addr} (hb:b∈Γ.X.own):b≠p.2 :=
 fun q=>(List.nodup_append.mp x.nodup).2.2 p.2 (mem_snd e) b hb q.symm
theorem Step.keeps9 (x:Step Γ.X R h R' h') (I:Sat Γ R h H):Keeps9 h R h' R' where
 tup a vs:=fun ⟨o,n,e,hc,hd⟩=>have f:=I.free_tup e hc hd;⟨o,n,x.same a o e f.1 f.2,hc,hd⟩
 rng a _ _ _ _ _ _ r:=have f:=I.free_fields r rfl;x.same a _ r f.1 f.2
 reg _ _ e:=x.get e
theorem After.keeps9 (x:After Γ s R s' R' st') (P:Pre Γ s R st):Keeps9 s.heap R s'.heap R':=x.step.keeps9 P.sat
theorem none_B (x:Sat Γ R h H) {D:Addr} (e:h.get? D=none):Γ.G.B.get? D=none :=
 Option.eq_none_iff_forall_ne_some.mpr fun _ q=>some_ne e (x.keep _ _ q)
theorem Sat.newAt (x:Sat Γ R h H) {D:Addr} (e:h.get? D=none):D∉R.map (·.2)++Γ.X.own:=fun q =>
 (List.mem_append.mp q).elim (fun q=>(x.regAt q).casesOn fun _ g _=>some_ne e g) fun q=>(x.frs _ q).casesOn fun _ g _=>some_ne e g
theorem nodup_snoc {α:Type} {a b:List α} {x:α} (h:(a++b).Nodup) (hx:x∉a++b):((a++[x])++b).Nodup:=by
 rw [List.append_assoc]
 exact (List.perm_middle.nodup_iff).mpr (List.nodup_cons.mpr ⟨hx,h⟩)
theorem Sat.alloc (x:Sat Γ R h H) {a D:Addr} {o:AObj} (hk:∀ b o,h.get? b=some o->h'.get? b=some o) (hD:h.get? D=none) (ha:h.get? a=none) (ho:ORel h' (R++[(a,D)]) (a,D) o) :
  Sat Γ (R++[(a,D)]) h' (H++[o]) where
 keep b o e:=hk _ _ (x.keep b o e)
 newR p hp:=(List.mem_append.mp hp).elim (x.newR p) fun hp=>List.mem_singleton.mp hp▸none_B x hD
 newC:=x.newC
 nodup:=by rw [List.map_append];exact nodup_snoc x.nodup (x.newAt hD)
 inj:=by
  rw [List.map_append,<-List.append_nil (_++_)]
  refine nodup_snoc (by rw [List.append_nil];exact x.inj) fun q=>?_
  rw [List.append_nil] at q
  obtain ⟨p,hp,e⟩:=List.mem_map.mp q
  obtain ⟨i,hi⟩:=List.getElem?_of_mem hp
  obtain ⟨o,_,r⟩:=x.rel hi
  have:=r.live1
  rw [e,ha] at this;cases this
 len:=by rw [List.length_append,List.length_append,x.len];rfl
 objs i p o' e1 e2:=by
  by_cases hi:i < R.length
  ·rw [List.getElem?_append_left hi] at e1
   rw [List.getElem?_append_left (x.len▸hi)] at e2
   exact (x.objs i p o' e1 e2).mono (keeps9_app hk) (fun _ e=>hk _ _ e) fun _ e=>hk _ _ e
  ·have h1:=Nat.not_lt.mp hi
   have h2:=(List.getElem?_eq_some_iff.mp e1).1
   rw [List.length_append] at h2
   obtain rfl:=Nat.le_antisymm (Nat.le_of_lt_succ h2) h1
   rw [get_last] at e1
   rw [List.getElem?_append_right (x.len▸h1),x.len,Nat.sub_self] at e2
   cases e1;cases e2;exact ho
 frs b hb:=(x.frs b hb).casesOn fun o g f=>⟨o,hk _ _ g,f⟩
theorem After.alloc {tk:Nat} {a D:Addr} {o:AObj} (P:Pre Γ s R st) (hk:∀ b o,s.heap.get? b=some o->h'.get? b=some o) (hD:s.heap.get? D=none) (ha:s.heap.get? a=none)
  (ho:ORel h' (R++[(a,D)]) (a,D) o):After Γ s R { s with heap:=h',toks:=tk } (R++[(a,D)]) ⟨st.fr,st.H++[o]⟩ :=
 ⟨rfl,⟨P.gens,P.sat.alloc hk hD ha ho,P.fr.keepAll hk (keeps9_app hk),P.ff.of_keeps fun b o e _=>⟨o,hk _ _ e,rfl⟩⟩,
  fun b e=>(Option.isSome_iff_exists.mp e).elim fun _ e=>Option.isSome_iff_exists.mpr ⟨_,hk _ _ e⟩,fun b o e _ _=>hk _ _ e,fun b o _ e=>⟨o.slots,hk _ _ e⟩,⟨[(a,D)],rfl,fun p hp=>List.mem_singleton.mp hp▸hD⟩⟩
theorem After.allocList {tk:Nat} {vs:List Value} {n:Nat} {as:List AV} (P:Pre Γ s R st) (r:VRels s.heap R vs as) (z:as.length<=LIM) :
  After Γ s R { s with heap:=s.heap.push (listOf vs.toArray n),toks:=tk } (R++[(s.heap.objs.size,s.heap.objs.size)]) ⟨st.fr,st.H++[.list as]⟩ :=
 After.alloc P (fun _ _ e=>Heap.get?_push_of_some _ e) (get_size_none _) (get_size_none _) ⟨vs,n,rfl,z,Heap.get?_push_size _ rfl,r.mono (keeps9_app fun _ _ e=>Heap.get?_push_of_some _ e)⟩
theorem newRefV {h9:Heap} {a D:Addr} (P:Pre Γ s R st):VRel h9 (R++[(a,D)]) (.ref a) (.ref st.H.length):=VRel.mkRef (b:=D) (by rw [<-P.sat.len];exact get_last)
theorem Sat.upd_keeps9 (x:Sat Γ R h H) {D:Addr} (e:D∈R.map (·.2)\/D∈Γ.X.own) (hk:∀ b o,b≠D->h.get? b=some o->h'.get? b=some o):Keeps9 h R h' R where
 tup a vs:=fun ⟨o,n,g,hc,hd⟩=>have f:=x.free_tup g hc hd;⟨o,n,hk a o (fun q=>e.elim (fun e=>f.1 (q▸e)) fun e=>f.2 (q▸e)) g,hc,hd⟩
 rng a _ _ _ _ _ _ r:=have f:=x.free_fields r rfl;hk a _ (fun q=>e.elim (fun e=>f.1 (q▸e)) fun e=>f.2 (q▸e)) r
 reg _ _ e:=e
theorem Sat.other (x:Sat Γ R h H) {D:Addr} {i:Nat} {q:Addr×Addr} {o:AObj} (e:D∈R.map (·.2)\/D∈Γ.X.own) (hk:∀ b o,b≠D->h.get? b=some o->h'.get? b=some o) (e1:R[i]?=some q) (e2:H[i]?=some o) (n2:q.2≠D):ORel h' R q o:=by
 have O:=x.objs i q o e1 e2
 refine O.mono (x.upd_keeps9 e hk) (fun b g=>hk _ _ ?_ g) fun b g=>hk _ _ n2 g
 cases o with
 | list vs=>obtain ⟨us,n,e,z,g,r⟩:=O;exact e▸n2
 | barr b=>exact O.e▸n2
 | frz its vs=>exact O.e▸n2
 | inst c f=>obtain ⟨es,n,g,d,l,r⟩:=O;exact fun q'=>have f:=x.free_plain g rfl;e.elim (fun e=>f.1 (q'▸e)) fun e=>f.2 (q'▸e)
theorem Sat.upd (x:Sat Γ R h H) {l:Nat} {p:Addr×Addr} {o':AObj} (e:R[l]?=some p) (hk:∀ b o,b≠p.2->h.get? b=some o->h'.get? b=some o) (ho:ORel h' R p o'):Sat Γ R h' (H.set l o') where
 keep b o g:=hk b o (fun q=>some_ne (x.newR p (List.mem_of_getElem? e)) (q▸g)) (x.keep b o g)
 newR:=x.newR
 newC:=x.newC
 nodup:=x.nodup
 inj:=x.inj
 len:=by rw [List.length_set,x.len]
 objs i q o e1 e2:=by
  by_cases hi:i=l
  ·subst hi
   rw [List.getElem?_set_self (x.len▸(List.getElem?_eq_some_iff.mp e).1)] at e2
   cases e2;cases inj_some e e1;exact ho
  ·rw [List.getElem?_set_ne (Ne.symm hi)] at e2
   exact x.other (.inl (mem_snd e)) hk e1 e2 (x.snd_ne e e1 hi)
 frs b hb:=(x.frs b hb).casesOn fun o g f=>⟨o,hk b o (x.snd_own e hb) g,f⟩
theorem FrRel.upd {env:Env} {names:List String} {fr:List (Option AV)} {bad:Addr} (x:FrRel h R env names fr) (hk:∀ b o,b≠bad->h.get? b=some o->h'.get? b=some o) (k9:Keeps9 h R h' R')
  (hl:env.locals≠bad) (hc:∀ y c,env.cells.lookup y=some c->c≠bad):FrRel h' R' env names fr :=
 ⟨x.len,x.ns.casesOn fun m n r=>⟨m,n.elim fun o q=>q.elim fun es q=>q.elim fun ep q=>⟨o,es,ep,hk _ _ hl q.1,q.2⟩,fun i y a e1 e2 e3=>(r i y a e1 e2 e3).elim fun v q=>⟨v,q.1,q.2.mono k9⟩⟩,
  fun i y e1 e2=>(x.cel i y e1 e2).casesOn fun c o ov e g d r=>⟨c,o,ov,e,hk _ _ (hc _ _ e) g,d,fun a q=>(r a q).elim fun v q=>⟨v,q.1,q.2.mono k9⟩⟩⟩
theorem funFrames_at {B:Heap}:∀ {l:List Env},h.FunFrames B l->(∀ env∈l,∀ L,env.frame=some L->∀ o,h.get? L=some o->(∀ vs,o.data≠.fields vs)->∃ o',h'.get? L=some o'/\∀ vs,o'.data≠.fields vs)->h'.FunFrames B l
 | [],_,_=>trivial
 | env::_,⟨hk,⟨L,o,hf,hn,ho,hd⟩,hr⟩,k=>(k env (.head _) L hf o ho hd).elim fun o' q=>⟨hk,⟨L,o',hf,hn,q⟩,funFrames_at hr fun e he=>k e (.tail _ he)⟩
theorem live_of {D:Addr} {o':Obj} (hk:∀ b o,b≠D->h.get? b=some o->h'.get? b=some o) (hD:h'.get? D=some o') (b:Addr) (g:(h.get? b).isSome):(h'.get? b).isSome:=by
 by_cases hq:b=D
 ·rw [hq,hD];rfl
 ·exact (Option.isSome_iff_exists.mp g).elim fun _ g=>Option.isSome_iff_exists.mpr ⟨_,hk b _ hq g⟩
theorem After.upd {tk:Nat} {l:Nat} {p:Addr×Addr} {o':AObj} {b':Obj} (P:Pre Γ s R st) (K:FxOk Γ.X) (e:R[l]?=some p) (hk:∀ b o,b≠p.2->s.heap.get? b=some o->h'.get? b=some o) (hb:h'.get? p.2=some b') (ho:ORel h' R p o') :
  After Γ s R { s with heap:=h',toks:=tk } R ⟨st.fr,st.H.set l o'⟩ :=
 ⟨rfl,⟨P.gens,P.sat.upd e hk ho,P.fr.upd hk (P.sat.upd_keeps9 (.inl (mem_snd e)) hk) (P.sat.snd_own e (List.mem_append_left _ K.loc)) fun y c hc=>P.sat.snd_own e (K.cells y c hc),funFrames_at P.ff fun env he L hL o g hn=>⟨o,hk L o (P.sat.snd_own e (K.chainIn env he L hL)) g,hn⟩⟩,
  live_of hk hb,fun b o g h1 _=>hk b o (fun q=>h1 (q▸mem_snd e)) g,fun b o hb' g=>⟨o.slots,hk b o (P.sat.snd_own e (List.mem_append_right _ hb')) g⟩,⟨[],(List.append_nil _).symm,fun _ hp=>nomatch hp⟩⟩
theorem Sat.updCur (x:Sat Γ R h H) {D:Addr} (hD:D∈Γ.X.own) (hk:∀ b o,b≠D->h.get? b=some o->h'.get? b=some o) (hn:Owned h' D):Sat Γ R h' H where
 keep b o g:=hk b o (fun q=>some_ne (x.newC D hD) (q▸g)) (x.keep b o g)
 newR:=x.newR
 newC:=x.newC
 nodup:=x.nodup
 inj:=x.inj
 len:=x.len
 objs i q o e1 e2:=x.other (.inr hD) hk e1 e2 (Ne.symm (x.snd_own e1 hD))
 frs b hb:=by
  by_cases hq:b=D
  ·exact hq▸hn
  ·exact (x.frs b hb).casesOn fun o g f=>⟨o,hk b o hq g,f⟩
theorem FrObj.noFields {o:Obj} (f:FrObj o) (vs:Array Value):o.data≠.fields vs:=fun q=>f.elim (fun ⟨_,_,e⟩=>nomatch e.symm.trans q) fun ⟨_,e⟩=>nomatch e.symm.trans q
theorem After.frame {tk:Nat} {D:Addr} {fr':List (Option AV)} (P:Pre Γ s R st) (hD:D∈Γ.X.cur) (hk:∀ b o,b≠D->s.heap.get? b=some o->h'.get? b=some o) (hn:Owned h' D)
  (hf:FrRel h' R Γ.X.env Γ.X.names fr'):After Γ s R { s with heap:=h',toks:=tk } R ⟨fr',st.H⟩ :=
 hn.casesOn fun o' g' f' =>
 ⟨rfl,⟨P.gens,P.sat.updCur (List.mem_append_left _ hD) hk hn,hf,funFrames_at P.ff fun env he L hL o g hnf=>by
  by_cases hq:L=D
  ·exact ⟨o',hq▸g',f'.noFields⟩
  ·exact ⟨o,hk L o hq g,hnf⟩⟩,
  live_of hk g',fun b o g _ h2=>hk b o (fun q=>h2 (q▸List.mem_append_left _ hD)) g,
  fun b o hb' g=>⟨o.slots,hk b o (fun q=>(List.nodup_append.mp (List.nodup_append.mp P.sat.nodup).2.1).2.2 D hD b hb' q.symm) g⟩,⟨[],(List.append_nil _).symm,fun _ hp=>nomatch hp⟩⟩
theorem ns_owned {L:Addr} {m:Str->Option Value} (hN:h'.Ns L m):Owned h' L:=hN.elim fun o q=>q.elim fun es q=>q.elim fun ep q=>⟨o,q.1,.inl ⟨es,ep,q.2.1⟩⟩
theorem After.setLocal {tk:Nat} {i:Nat} {x:String} {v:Value} {a:AV} {m:Str->Option Value} (P:Pre Γ s R st) (K:FxOk Γ.X) (hi:Γ.X.names[i]?=some x) (hx:Γ.X.env.scope.names.lookup (Str.ofString x)=some .local)
  (hm:∀ (j:Nat) (y:String) (b:AV),Γ.X.names[j]?=some y->st.fr[j]?=some (some b)->Γ.X.env.scope.names.lookup (Str.ofString y)=some .local->∃ v,m (Str.ofString y)=some v/\VRel s.heap R v b)
  (hN:h'.Ns Γ.X.env.locals fun y=>if y=Str.ofString x then some v else m y) (hs:Heap.SameBut Γ.X.env.locals s.heap h') (r:VRel s.heap R v a) :
  After Γ s R { s with heap:=h',toks:=tk } R ⟨st.fr.set i (some a),st.H⟩:=by
 have hk:∀ b o,b≠Γ.X.env.locals->s.heap.get? b=some o->h'.get? b=some o:=fun b o hb g=>(hs.2 b hb).trans g
 have k9:=P.sat.upd_keeps9 (.inr (List.mem_append_left _ K.loc)) hk
 have hil:i < st.fr.length:=P.fr.len▸(List.getElem?_eq_some_iff.mp hi).1
 refine After.frame P K.loc hk (ns_owned hN) ⟨by rw [List.length_set];exact P.fr.len,⟨_,hN,fun j y b e1 e2 e3=>?_⟩,fun j y e1 e2=>(P.fr.cel j y e1 e2).casesOn fun c o ov e g d q=>⟨c,o,ov,e,hk _ _ (K.cellNe _ _ e) g,d,fun b hb=>?_⟩⟩
 ·by_cases hj:j=i
  ·subst hj
   cases inj_some hi e1
   rw [List.getElem?_set_self hil] at e2;cases e2
   exact ⟨v,if_pos rfl,r.mono k9⟩
  ·rw [List.getElem?_set_ne (Ne.symm hj)] at e2
   exact (hm j y b e1 e2 e3).elim fun u q=>⟨u,(if_neg fun z=>hj (names_inj K.nodup e1 (hi.trans (congrArg some (ofString_inj z).symm)))).trans q.1,q.2.mono k9⟩
 ·rw [List.getElem?_set_ne (fun hj=>by
   subst hj
   cases inj_some hi e1
   rw [hx] at e2;exact e2.elim nofun nofun)] at hb
  exact (q b hb).elim fun u q=>⟨u,q.1,q.2.mono k9⟩
theorem After.setCell {tk:Nat} {i:Nat} {x:String} {v:Value} {a:AV} {c:Addr} {o':Obj} (P:Pre Γ s R st) (K:FxOk Γ.X) (hi:Γ.X.names[i]?=some x) (hx:isCellK (Γ.X.env.scope.names.lookup (Str.ofString x)))
  (hc:Γ.X.env.cells.lookup (Str.ofString x)=some c) (hcur:c∈Γ.X.cur) (hk:∀ b o,b≠c->s.heap.get? b=some o->h'.get? b=some o) (ho:h'.get? c=some o') (hd:o'.data=.cell (some v)) (r:VRel s.heap R v a) :
  After Γ s R { s with heap:=h',toks:=tk } R ⟨st.fr.set i (some a),st.H⟩:=by
 have k9:=P.sat.upd_keeps9 (.inr (List.mem_append_left _ hcur)) hk
 have hil:i < st.fr.length:=P.fr.len▸(List.getElem?_eq_some_iff.mp hi).1
 refine After.frame P hcur hk ⟨o',ho,.inr ⟨_,hd⟩⟩ ⟨by rw [List.length_set];exact P.fr.len,P.fr.ns.casesOn fun m n q=>⟨m,n.elim fun o z=>z.elim fun es z=>z.elim fun ep z=>⟨o,es,ep,hk _ _ (fun q=>K.cellNe _ _ hc q.symm) z.1,z.2⟩,fun j y b e1 e2 e3=>?_⟩,
  fun j y e1 e2=>(P.fr.cel j y e1 e2).casesOn fun c' o ov e g d q=>?_⟩
 ·rw [List.getElem?_set_ne (fun hj=>by
   subst hj
   cases inj_some hi e1
   rw [e3] at hx;exact hx.elim nofun nofun)] at e2
  exact (q j y b e1 e2 e3).elim fun u q=>⟨u,q.1,q.2.mono k9⟩
 ·by_cases hj:j=i
  ·subst hj
   cases inj_some hi e1
   exact ⟨c,o',_,hc,ho,hd,fun b hb=>⟨v,rfl,by
    rw [List.getElem?_set_self hil] at hb;cases hb
    exact r.mono k9⟩⟩
  ·refine ⟨c',o,ov,e,hk _ _ (fun z=>hj (names_inj K.nodup e1 (hi.trans (congrArg some (ofString_inj (K.cellInj _ _ c (z▸e) hc)).symm)))) g,d,fun b hb=>?_⟩
   rw [List.getElem?_set_ne (Ne.symm hj)] at hb
   exact (q b hb).elim fun u q=>⟨u,q.1,q.2.mono k9⟩
end
end Ab
end
section
namespace Ab
open PySem PySem.W PySem.Calls PyProof.Rows
theorem mulOk {a b:Int} (ha:-BIG < a/\a < BIG) (hb:-BIG < b/\b < BIG):IntMulOk a b:=by
 have h1:Builtin.Int.intBits a<=64:=intBits_le_64 ha.1 ha.2
 have h2:Builtin.Int.intBits b<=64:=intBits_le_64 hb.1 hb.2
 have h3:(128:Int)<=(bitsLine:Int):=by decide +kernel
 unfold IntMulOk Builtin.Int.intTooBig
 rw [decide_eq_false (p:=(Builtin.Int.intBits a:Int) + (Builtin.Int.intBits b:Int)>(bitsLine:Int)) (by clear ha hb;omega),Bool.and_false]
 nofun
theorem bitAnd_nat (x y:Nat):Builtin.bitAnd x y=((x &&& y:Nat):Int):=by
 unfold Builtin.bitAnd
 rw [decide_eq_true (Int.natCast_nonneg x),decide_eq_true (Int.natCast_nonneg y)]
 rfl
theorem bitOr_nat (x y:Nat):Builtin.bitOr x y=((x ||| y:Nat):Int):=by
 have e:∀ x:Nat,¬ 0<=Builtin.bitNot (x:Int):=fun x=>by unfold Builtin.bitNot;omega
 have e3:∀ z:Int,Builtin.bitNot (Builtin.bitNot z)=z:=fun z=>by unfold Builtin.bitNot;omega
 unfold Builtin.bitOr Builtin.bitAnd
 rw [decide_eq_false (e x),decide_eq_false (e y)]
 dsimp only
 rw [e3,e3,e3]
 rfl
theorem LIM_line:LIM<=sizeLine:=by decide
theorem noPylong64 {x y:Int} (h0:0 < y) (h:y < BIG):¬ Builtin.divisionGoesByPylong x y=true:=by
 rw [PyProof.noPylong_of_log2]
 ·nofun
 ·have h:y < 18446744073709551616:=h
  have h1:y.natAbs.log2 < 64:=(Nat.log2_lt (by omega)).mpr (by omega)
  clear h;omega
theorem intBits_lt {n m:Nat} (h:Builtin.Int.intBits n<=m):n < 2 ^ m:=by
 unfold Builtin.Int.intBits at h
 by_cases hz:n=0
 ·subst hz;exact Nat.pow_pos (by decide)
 ·rw [if_neg (by simpa using hz)] at h
  exact (Nat.log2_lt hz).mp h
theorem shr_split {n m:Nat} {P:Int->Prop} (h:P ((n / 2 ^ m:Nat):Int)):((m:Int) >= (Builtin.Int.intBits n:Nat)->P (if (n:Int) < 0 then -1 else 0))/\P ((n:Int).fdiv (2 ^ (m:Int).toNat)):=by
 constructor
 ·intro hb
  rw [if_neg (by omega)]
  rw [Nat.div_eq_of_lt (intBits_lt (Int.ofNat_le.mp hb))] at h
  exact h
 ·rw [Int.fdiv_eq_ediv_of_nonneg _ (Int.le_of_lt (Int.pow_pos (by decide)))]
  rw [Int.natCast_ediv,Int.natCast_pow] at h
  exact h
section
variable {Γ:Cx} {s s' s'':Shared} {R R' R'':Reg} {st st' st'':St} {h h':Heap} {H:AH} {a b:Value} {x y:AV}
inductive IsLst (h:Heap) (R:Reg) (v:Value) (l:Nat) (xs:List AV):Prop
 | mk (a:Addr) (us:List Value) (n:Nat) (e:v=.ref a) (g:R[l]?=some (a,a)) (z:xs.length<=LIM) (i:h.get? a=some (listOf us.toArray n)) (r:VRels h R us xs)
theorem Pre.lst {v:Value} {l:Nat} {xs:List AV} (P:Pre Γ s R st) (r:VRel s.heap R v (.ref l)) (e:st.H[l]?=some (.list xs)):IsLst s.heap R v l xs:=by
 obtain ⟨a,b,rfl,g⟩:=r.ref_v
 obtain ⟨us,n,e1,z,i,r⟩:=P.sat.at g e
 obtain rfl:a=b:=e1
 exact ⟨a,us,n,rfl,g,z,i,r⟩
theorem isList {a:Addr} {us:Array Value} {n:Nat} (i:h.get? a=some (listOf us n)):h.IsList a us:=⟨_,i,rfl,n,rfl⟩
theorem VRels.line {us:List Value} {xs:List AV} (r:VRels h R us xs) (z:xs.length<=LIM):us.toArray.size<=sizeLine:=by rw [List.size_toArray,r.len];exact Nat.le_trans z LIM_line
theorem list_made {Q:KV} {tk:Nat} {us:List Value} {xs:List AV} {n:Nat} (P:Pre Γ s R st) (r:VRels s.heap R us xs) (z:xs.length<=LIM) (h:Q (.ref st.H.length) ⟨st.fr,st.H++[.list xs]⟩) :
  Lift Γ VRel s R Q (.ref s.heap.objs.size) { s with heap:=s.heap.push (listOf us.toArray n),toks:=tk } :=
 ⟨_,_,_,h,After.allocList P r z,newRefV P⟩
theorem sim_newList {vs:List Value} {as:List AV} (P:Pre Γ s R st) (r:VRels s.heap R vs as) (z:as.length<=LIM):SimAt Γ VRel (newList vs) (fun Q _=>Q (.ref st.H.length) ⟨st.fr,st.H++[.list as]⟩) s R :=
 .rule fun _ _ hp=>wpAny_newObj_type (list_made P r z hp) (r.line z)
theorem sim_addL {l m:Nat} {xs ys:List AV} (P:Pre Γ s R st) (ra:VRel s.heap R a (.ref l)) (rb:VRel s.heap R b (.ref m)) (h1:st.H[l]?=some (.list xs)) (h2:st.H[m]?=some (.list ys)) (z:xs.length + ys.length<=LIM) :
  SimAt Γ VRel (binaryOp .Add a b) (fun Q _=>Q (.ref st.H.length) ⟨st.fr,st.H++[.list (xs++ys)]⟩) s R:=by
 obtain ⟨a,us,n,rfl,_,_,g1,r1⟩:=P.lst ra h1
 obtain ⟨b,ws,k,rfl,_,_,g2,r2⟩:=P.lst rb h2
 have z':(xs++ys).length<=LIM:=by rw [List.length_append];exact z
 have r:=r1.app r2
 have hz:=r.line z'
 rw [<-List.append_toArray,Array.size_append] at hz
 refine .rule fun _ _ hp=>concat_meets ⟨_,g1,rfl⟩ ⟨_,g2,rfl⟩ noFill_list_add seq_list_add PySem.F.slot_list_add PySem.F.entry_list_add (PySem.F.args_list_add_2 _ _) (list_addW _ _ us.toArray ws.toArray n k none none #[] #[] hz) ⟨g1,g2,?_⟩
 rw [List.append_toArray]
 exact list_made P r z' hp
theorem sim_add (P:Pre Γ s R st) (ra:VRel s.heap R a x) (rb:VRel s.heap R b y):SimAt Γ VRel (binaryOp .Add a b) (fun Q _=>addP x y st Q) s R:=by
 cases x with
 | int i =>
  refine .isInt fun j e=>?_
  subst e
  obtain ⟨t,rfl⟩:=ra.int_v
  obtain ⟨u,rfl⟩:=rb.int_v
  exact .leaf P fun k=>add_int (k _ _ (.int _ _))
 | bytes i =>
  refine .isBytes fun j e=>.and fun z=>?_
  subst e
  obtain ⟨t,rfl,_⟩:=ra.bytes_v
  obtain ⟨u,rfl,_⟩:=rb.bytes_v
  refine .leaf P fun k=>KBy.add_bytes (Nat.le_trans z (by decide)) fun t' tk=>?_
  rw [List.append_toArray]
  exact k _ _ (.bytes _ _ (by rw [List.length_append];exact z))
 | ref l=>exact .isRef fun m e=>.lst fun xs h1=>.lst fun ys h2=>.and fun z=>sim_addL P ra (e▸rb) h1 h2 z
 | _=>exact .no
theorem flatten_rep {α:Type} (x:α) (n:Nat):(List.replicate n [x]).flatten=List.replicate n x:=by
 induction n with
 | zero=>rfl
 | succ n ih=>rw [List.replicate_succ,List.flatten_cons,ih];rfl
theorem sim_mulL {l n:Nat} {i:Int} {u:Tok} {y:AV} (P:Pre Γ s R st) (ra:VRel s.heap R a (.ref l)) (h1:st.H[l]?=some (.list [y])) (z:n<=LIM) (hi:i=n) :
  SimAt Γ VRel (binaryOp .Mult a (.int i u)) (fun Q _=>Q (.ref st.H.length) ⟨st.fr,st.H++[.list (List.replicate n y)]⟩) s R:=by
 obtain ⟨a,us,k,rfl,_,_,g1,r1⟩:=P.lst ra h1
 obtain ⟨v,hv,r2⟩:=r1.inv1
 have z:n<=1048576:=z
 have a1:¬ (!Builtin.List.listFitsIndex i)=true:=by
  unfold Builtin.List.listFitsIndex
  rw [decide_eq_true (by omega),decide_eq_true (by omega)]
  nofun
 have hn:i.toNat=n:=by omega
 have e3:us.toArray.size * i.toNat<=1048576:=by rw [hn,hv];exact (Nat.one_mul n).symm▸z
 have e4:¬ us.toArray.size * i.toNat>sizeLine:=Nat.not_lt.mpr (Nat.le_trans e3 (by decide))
 refine .rule fun _ _ hp=>wpAny_binaryOp_repeat_ref (T:="list") (U:="int") (by decide) ⟨_,g1,rfl⟩ (fun s'=>typeIs_int s' _ u) noFill_list_mul F.fills_int_mul F.slot_int_rmul repeat_list F.slot_int_index.lookup
  (call_meets F.slot_int_rmul (typeIs_int s _ u) F.entry_int_rmul (F.args_int_rmul_2 _ _) (lm_int_rmul_list_any _ u _ _ k none #[])
   ⟨g1,rfl,⟨_,g1,rfl⟩,call_meets F.slot_list_mul ⟨_,g1,rfl⟩ F.entry_list_mul (F.args_list_mul_2 _ _)
    (lm_list_mul_any _ _ k none #[] _ u a1 (Nat.not_lt.mpr (Nat.le_trans e3 (by decide))) (by unfold Builtin.List.listTooLong;rw [decide_eq_false e4];nofun))
    ⟨g1,?_⟩⟩)
 rw [listMul_foldl_if,hn,hv,show (List.replicate n (List.toArray [v]).toList).flatten=List.replicate n v from flatten_rep v n]
 exact list_made (n:=0) P (VRels.rep r2 n) (by rw [List.length_replicate];exact z) hp
theorem sim_mul (P:Pre Γ s R st) (ra:VRel s.heap R a x) (rb:VRel s.heap R b y):SimAt Γ VRel (binaryOp .Mult a b) (fun Q _=>mulP x y st Q) s R:=by
 cases x with
 | int i =>
  refine .isInt fun j e=>.and fun h1=>.and fun h2=>?_
  subst e
  obtain ⟨t,rfl⟩:=ra.int_v
  obtain ⟨u,rfl⟩:=rb.int_v
  exact .leaf P fun k=>mul_int (k _ _ (.int _ _)) (mulOk h1 h2)
 | bytes bs =>
  refine .nt fun n e=>?_
  cases bs with
  | nil=>exact .no
  | cons x r =>
   refine .and fun e2=>.and fun z=>?_
   subst e e2
   obtain ⟨t,rfl,_⟩:=ra.bytes_v
   obtain ⟨u,rfl⟩:=rb.int_v
   have z':n<=1048576:=z
   refine .leaf P fun k=>bytes_mul_any (nofun) (by omega) (by omega) (Nat.le_of_ble_eq_true rfl) fun t' tk=>?_
   rw [Int.toNat_natCast,flatten_rep]
   exact k _ _ (.bytes _ _ (by rw [List.length_replicate];exact z))
 | ref l =>
  refine .nt fun n e=>.lst fun xs h1=>.one fun y e2=>.and fun z=>?_
  subst e e2
  obtain ⟨u,rfl⟩:=rb.int_v
  exact sim_mulL P ra h1 z rfl
 | _=>exact .no
theorem sim_shr {op:Sem Value} (P:Pre Γ s R st) (h:∀ n m:Nat,x=.int n->y=.int m->∀ {Q:Value->Shared->Prop} {E:Value->Shared->Prop},((m:Int) >= (Builtin.Int.intBits n:Nat)->(Made.int (if (n:Int) < 0 then -1 else 0)).post Q s)->(Made.int ((n:Int).fdiv (2 ^ (m:Int).toNat))).post Q s->wpAny Γ.M Γ.A op Q E s) :
  SimAt Γ VRel op (fun Q _=>shrP x y fun v=>Q v st) s R :=
 .nt fun n e=>.nt fun m f=>.leaf P fun k=>have q:=shr_split (n:=n) (m:=m) (P:=fun i=>(Made.int i).post _ s) (k _ _ (.int _ _));h n m e f q.1 q.2
theorem sim_or {op:Sem Value} (P:Pre Γ s R st) (h:∀ n m:Nat,x=.int n->y=.int m->∀ {Q:Value->Shared->Prop} {E:Value->Shared->Prop},Q (.int (Builtin.bitOr n m) s.toks) { s with toks:=s.toks+1 }->wpAny Γ.M Γ.A op Q E s) :
  SimAt Γ VRel op (fun Q _=>orP x y fun v=>Q v st) s R :=
 .nt fun n e=>.nt fun m f=>.leaf P fun k=>h n m e f (by rw [bitOr_nat];exact k _ _ (.int _ _))
theorem sim_bin {op:Operator} (P:Pre Γ s R st) (ra:VRel s.heap R a x) (rb:VRel s.heap R b y):SimAt Γ VRel (binaryOp op a b) (fun Q _=>binP op x y st Q) s R:=by
 cases op with
 | Add=>exact sim_add P ra rb
 | Sub =>
  refine .isInt fun i e=>.isInt fun j f=>?_
  subst e f
  obtain ⟨t,rfl⟩:=ra.int_v
  obtain ⟨u,rfl⟩:=rb.int_v
  exact .leaf P fun k=>sub_int (k _ _ (.int _ _))
 | Mult=>exact sim_mul P ra rb
 | FloorDiv =>
  refine .isInt fun i e=>.isInt fun j f=>.and fun z=>?_
  subst e f
  obtain ⟨t,rfl⟩:=ra.int_v
  obtain ⟨u,rfl⟩:=rb.int_v
  refine .leaf P fun k=>AutoIntOps.floordiv_1 (fun q=>Int.ne_of_gt z.1 (eq_of_beq q)) (noPylong64 z.1 z.2) ?_
  rw [Int.fdiv_eq_ediv_of_nonneg _ (Int.le_of_lt z.1)]
  exact k _ _ (.int _ _)
 | Mod =>
  refine .isInt fun i e=>.isInt fun j f=>.and fun z=>?_
  subst e f
  obtain ⟨t,rfl⟩:=ra.int_v
  obtain ⟨u,rfl⟩:=rb.int_v
  refine .leaf P fun k=>AutoIntOps.mod_1 (fun q=>Int.ne_of_gt z (eq_of_beq q)) ?_
  rw [Int.fmod_eq_emod_of_nonneg _ (Int.le_of_lt z)]
  exact k _ _ (.int _ _)
 | BitAnd =>
  refine .nt fun i e=>.nt fun j f=>?_
  subst e f
  obtain ⟨t,rfl⟩:=ra.int_v
  obtain ⟨u,rfl⟩:=rb.int_v
  exact .leaf P fun k=>and_int (by rw [bitAnd_nat];exact k _ _ (.int _ _))
 | BitOr =>
  refine sim_or P fun n m e f _ _ k=>?_
  subst e f
  obtain ⟨t,rfl⟩:=ra.int_v
  obtain ⟨u,rfl⟩:=rb.int_v
  exact or_int k
 | LShift =>
  refine .nt fun i e=>.nt fun j f=>.and fun z=>.and fun z2=>?_
  subst e f
  obtain ⟨t,rfl⟩:=ra.int_v
  obtain ⟨u,rfl⟩:=rb.int_v
  refine .leaf P fun k=>lshift_int (Int.natCast_nonneg _) ?_ ?_
  ·have h5:Builtin.Int.intBits (i:Int)<=64:=intBits_le_64 (by omega) (Int.ofNat_lt.mpr z)
   clear ra rb;omega
  ·have:=k (.int ((i * 2 ^ j:Nat):Int) s.toks) (s.toks+1) (.int _ _)
   rw [Int.natCast_mul,Int.natCast_pow] at this
   exact this
 | RShift =>
  refine sim_shr P fun n m e f _ _ k1 k2=>?_
  subst e f
  obtain ⟨t,rfl⟩:=ra.int_v
  obtain ⟨u,rfl⟩:=rb.int_v
  by_cases hb:(m:Int) >= (Builtin.Int.intBits n:Nat)
  ·exact AutoIntOps.rshift_1 (Int.not_lt.mpr (Int.natCast_nonneg _)) hb (k1 hb)
  ·exact AutoIntOps.rshift_2 (Int.not_lt.mpr (Int.natCast_nonneg _)) hb k2
 | _=>exact .no
theorem sim_aug {op:Operator} (P:Pre Γ s R st) (ra:VRel s.heap R a x) (rb:VRel s.heap R b y):SimAt Γ VRel (inplaceOp op a b) (fun Q _=>augP op x y fun v=>Q v st) s R:=by
 cases op with
 | Add =>
  refine .isInt fun i e=>.isInt fun j f=>?_
  subst e f
  obtain ⟨t,rfl⟩:=ra.int_v
  obtain ⟨u,rfl⟩:=rb.int_v
  exact .leaf P fun k=>AutoIntOps.iadd_0 (k _ _ (.int _ _))
 | BitOr =>
  refine sim_or P fun n m e f _ _ k=>?_
  subst e f
  obtain ⟨t,rfl⟩:=ra.int_v
  obtain ⟨u,rfl⟩:=rb.int_v
  exact ior_int k
 | RShift =>
  refine sim_shr P fun n m e f _ _ k1 k2=>?_
  subst e f
  obtain ⟨t,rfl⟩:=ra.int_v
  obtain ⟨u,rfl⟩:=rb.int_v
  by_cases hb:(m:Int) >= (Builtin.Int.intBits n:Nat)
  ·exact AutoIntOps.irshift_1 (Int.not_lt.mpr (Int.natCast_nonneg _)) hb (k1 hb)
  ·exact AutoIntOps.irshift_2 (Int.not_lt.mpr (Int.natCast_nonneg _)) hb k2
 | _=>exact .no
end
end Ab
end
section
namespace Ab
open PySem PySem.W PySem.Calls PyProof.Rows PySem.SeqAt
theorem eqT_of {A:Around} {s:Shared} {R:Reg} {v u:Value} {x:AV} (r:VRel s.heap R v x) (h:RcAt A s v u true):EqAt A s v u true:=fun prog w E Q hq=>by
 unfold eqBool
 refine wpAny_holding (wpAny_ite_split (fun _=>wpAny_bind (wpAny_rule (wpAny_pure hq))) fun _=>?_)
 cases r <;> exact wpAny_bind (h prog w E _ (wpAny_truthy_bool hq))
theorem isTuple_of {h:Heap} {a:Addr} {vs:List Value} (t:h.TupAt a vs):h.IsTuple a vs.toArray:=t.elim fun o q=>q.elim fun n q=>⟨o,q.1,q.2.1,n,q.2.2⟩
theorem rc_bytes {A:Around} {s:Shared} (b c:List UInt8) (t u:Tok):RcAt A s (.bytes b.toArray t) (.bytes c.toArray u) (decide (b=c))/\RcNeAt A s (.bytes b.toArray t) (.bytes c.toArray u) (!decide (b=c)):=by
 have e:decide (b=c)=(b==c):=by rw [Bool.eq_iff_iff,decide_eq_true_iff,beq_iff_eq]
 rw [e]
 exact ⟨fun _ _ _ _ hq=>eq_bytes hq,fun _ _ _ _ hq=>ne_bytes hq⟩
def RcB (A:Around) (s:Shared) (v u:Value) (r:Bool):Prop:=RcAt A s v u r/\RcNeAt A s v u (!r)
theorem all_true (l:List Nat):l.all (fun _=>true)=true:=List.all_eq_true.mpr fun _ _=>rfl
section
variable {Γ:Cx} {s s' s'':Shared} {R R' R'':Reg} {st st' st'':St} {h h':Heap} {H:AH} {a b:Value} {x y:AV}
theorem same_items {A:Around} {us ws:List Value} {xs ys:List AV} (r1:VRels s.heap R us xs) (r2:VRels s.heap R ws ys) (hl:xs.length=ys.length)
  (ih:∀ (i:Nat) (x y:AV),xs[i]?=some x->ys[i]?=some y->∀ v u,VRel s.heap R v x->VRel s.heap R u y->RcB A s v u true) :
  us.toArray.size=ws.toArray.size/\∀ (j:Nat) (h1:j < us.toArray.size) (h2:j < ws.toArray.size),EqAt A s us.toArray[j] ws.toArray[j] true:=by
 refine ⟨r1.len.trans (hl.trans r2.len.symm),fun j h1 h2=>?_⟩
 have h3:j < xs.length:=r1.len▸h1
 have h4:j < ys.length:=r2.len▸h2
 have e1:=List.getElem?_eq_getElem h3
 have e2:=List.getElem?_eq_getElem h4
 have q:=r1.ix j _ _ (List.getElem?_eq_getElem h1) e1
 exact eqT_of q (ih j _ _ e1 e2 _ _ q (r2.ix j _ _ (List.getElem?_eq_getElem h2) e2)).1
theorem same_rc (P:Pre Γ s R st) (n:Nat):∀ (A:Around) (x y:AV) (a b:Value),A.units + n < cLine->Same st.H n x y->VRel s.heap R a x->VRel s.heap R b y->RcB A s a b true:=by
 induction n with
 | zero=>exact fun _ _ _ _ _ _ e=>e.elim
 | succ n ih =>
  intro A x y a b hu e ra rb
  have hu':A.in1.units + n < cLine:=by rw [Around.in1_units];omega
  have hA:A.units < cLine:=Nat.lt_of_le_of_lt (Nat.le_add_right _ _) hu
  cases x with
  | none =>
   obtain rfl:=ra.none_v
   have e:y=.none:=e
   subst e
   obtain rfl:=rb.none_v
   exact ⟨.none_none,.none_none⟩
  | bool i =>
   have e:AV.bool i=y:=e
   subst e
   obtain rfl:=ra.bool_v
   obtain rfl:=rb.bool_v
   have:=And.intro (RcAt.bool_bool (A:=A) (s:=s) i i) (RcNeAt.bool_bool (A:=A) (s:=s) i i)
   rw [beq_self_eq_true] at this
   exact this
  | int i =>
   have e:AV.int i=y:=e
   subst e
   obtain ⟨t,rfl⟩:=ra.int_v
   obtain ⟨u,rfl⟩:=rb.int_v
   have:=And.intro (RcAt.int_int (A:=A) (s:=s) i t i u) (RcNeAt.int_int (A:=A) (s:=s) i t i u)
   rw [beq_self_eq_true] at this
   exact this
  | bytes i =>
   have e:AV.bytes i=y:=e
   subst e
   obtain ⟨t,rfl,_⟩:=ra.bytes_v
   obtain ⟨u,rfl,_⟩:=rb.bytes_v
   have:=rc_bytes (A:=A) (s:=s) i i t u
   rw [decide_eq_true rfl] at this
   exact this
  | tup xs =>
   cases y with
   | tup ys =>
    obtain ⟨p,us,rfl,t1,_,r1⟩:=ra.tup_v
    obtain ⟨q,ws,rfl,t2,_,r2⟩:=rb.tup_v
    obtain ⟨k1,k2⟩:=same_items (A:=A.in1) r1 r2 e.1 fun i x y e1 e2 v u=>ih A.in1 x y v u hu' (e.2 i x y e1 e2)
    have:=And.intro (RcAt.tuples (isTuple_of t1) (isTuple_of t2) hA k2) (RcNeAt.tuples (isTuple_of t1) (isTuple_of t2) hA k2)
    rw [all_true,beq_iff_eq.mpr k1] at this
    exact this
   | _=>exact e.elim
  | ref l =>
   cases y with
   | ref m =>
    obtain ⟨xs,h1,ys,h2,e⟩:=e
    obtain ⟨p,us,_,rfl,_,_,t1,r1⟩:=P.lst ra h1
    obtain ⟨q,ws,_,rfl,_,_,t2,r2⟩:=P.lst rb h2
    obtain ⟨k1,k2⟩:=same_items (A:=A.in1) r1 r2 e.1 fun i x y e1 e2 v u=>ih A.in1 x y v u hu' (e.2 i x y e1 e2)
    have:=And.intro (RcAt.lists (isList t1) (isList t2) k1 hA k2) (RcNeAt.lists (isList t1) (isList t2) k1 hA k2)
    rw [all_true] at this
    exact this
   | _=>exact e.elim
  | rng n f=>exact e.elim
  | str i =>
   have e:AV.str i=y:=e
   subst e
   obtain ⟨t,rfl⟩:=ra.str_v
   obtain ⟨u,rfl⟩:=rb.str_v
   refine ⟨fun _ _ _ _ hq=>eq_str ?_,fun _ _ _ _ hq=>ne_str ?_⟩
   ·rw [beq_self_eq_true];exact hq
   ·rw [bne_self_eq_false];exact hq
theorem pair_rc {A:Around} {i j p q:Int} (hu:A.units < cLine) (ra:VRel s.heap R a (.tup [.int i,.int j])) (rb:VRel s.heap R b (.tup [.int p,.int q])):RcB A s a b (decide (i=p)&&decide (j=q)):=by
 obtain ⟨_,us,rfl,t1,_,r1⟩:=ra.tup_v
 obtain ⟨_,ws,rfl,t2,_,r2⟩:=rb.tup_v
 obtain ⟨_,_,rfl,v1,r3⟩:=r1.inv
 obtain ⟨_,rfl,v2⟩:=r3.inv1
 obtain ⟨_,_,rfl,u1,r4⟩:=r2.inv
 obtain ⟨_,rfl,u2⟩:=r4.inv1
 obtain ⟨k1,rfl⟩:=v1.int_v
 obtain ⟨k2,rfl⟩:=v2.int_v
 obtain ⟨k3,rfl⟩:=u1.int_v
 obtain ⟨k4,rfl⟩:=u2.int_v
 have k:∀ (m:Nat) (h1:m < 2) (h2:m < 2),EqAt A.in1 s ([Value.int i k1,.int j k2].toArray[m]'h1) ([Value.int p k3,.int q k4].toArray[m]'h2) ([i==p,j==q].getD m true):=by
  intro m h1 h2
  cases m with
  | zero=>exact EqAt.int_int _ _ _ _
  | succ m =>
   cases m with
   | zero=>exact EqAt.int_int _ _ _ _
   | succ m=>exact absurd h1 (by omega)
 have:=And.intro (RcAt.tuples (e:=fun m=>[i==p,j==q].getD m true) (isTuple_of t1) (isTuple_of t2) hu k) (RcNeAt.tuples (e:=fun m=>[i==p,j==q].getD m true) (isTuple_of t1) (isTuple_of t2) hu k)
 have e:((List.range (min 2 2)).all (fun m=>[i==p,j==q].getD m true)&&(2:Nat)==2)=(decide (i=p)&&decide (j=q)):=by
  show ((decide (i=p)&&(decide (j=q)&&true))&&true)=_
  rw [Bool.and_true,Bool.and_true]
 exact e▸this
theorem sim_eqP {t:Sem Value} {f:Bool->Bool} (P:Pre Γ s R st) (hu:Γ.A.units + 8 < cLine) (ra:VRel s.heap R a x) (rb:VRel s.heap R b y) (hk:∀ r,RcB Γ.A s a b r->∀ {Q:Value->Shared->Prop} {E:Value->Shared->Prop},Q (.bool (f r)) s->wpAny Γ.M Γ.A t Q E s) :
  SimAt Γ VRel t (fun Q _=>eqP st.H x y fun r=>Q (.bool (f r)) st) s R:=by
 have hl:∀ r,RcB Γ.A s a b r->SimAt Γ VRel t (fun Q _=>Q (.bool (f r)) st) s R:=fun r q=>.leaf P fun k=>hk r q (k _ s.toks (.bool _))
 have he:SimAt Γ VRel t (fun Q _=>Eqv st.H x y fun r=>Q (.bool (f r)) st) s R:=fun Q E hp=>by
  cases hp with
  | same e h=>exact hl true (same_rc P 7 Γ.A x y a b (by omega) e ra rb) Q E h
  | tupNone as e g h =>
   subst e g
   obtain ⟨_,us,rfl,t,_,_⟩:=ra.tup_v
   obtain rfl:=rb.none_v
   exact hl false ⟨.tuple_none (isTuple_of t) (by omega),.tuple_none (isTuple_of t) (by omega)⟩ Q E h
  | pairs i j p q e g h =>
   subst e g
   exact hl _ (pair_rc (by omega) ra rb) Q E h
 cases x with
 | bool i =>
  refine .isBool fun j e=>?_
  subst e
  obtain rfl:=ra.bool_v
  obtain rfl:=rb.bool_v
  exact hl _ ⟨.bool_bool i j,.bool_bool i j⟩
 | int i =>
  refine .isInt fun j e=>?_
  subst e
  obtain ⟨t,rfl⟩:=ra.int_v
  obtain ⟨u,rfl⟩:=rb.int_v
  exact hl _ ⟨.int_int i t j u,.int_int i t j u⟩
 | bytes i =>
  refine .isBytes fun j e=>?_
  subst e
  obtain ⟨t,rfl,_⟩:=ra.bytes_v
  obtain ⟨u,rfl,_⟩:=rb.bytes_v
  exact hl _ (rc_bytes i j t u)
 | rng n f=>exact .no
 | _=>exact he
theorem sim_isNone {t:Sem Value} {f:Bool->Bool} (P:Pre Γ s R st) (ra:VRel s.heap R a x) (hk:plainIs a .none=true->∀ {Q:Value->Shared->Prop} {E:Value->Shared->Prop},Q (.bool (f (a==.none))) s->wpAny Γ.M Γ.A t Q E s) :
  SimAt Γ VRel t (fun Q _=>isNone x fun r=>Q (.bool (f r)) st) s R:=by
 cases ra <;> exact .leaf P fun k=>hk rfl (k _ s.toks (.bool _))
theorem ints_are {is:List Int}:∀ {us:List Value},VRels h R us (is.map .int)->IntsAre us is:=by
 induction is with
 | nil=>intro us r;obtain rfl:=r.inv0;exact .nil
 | cons i is ih =>
  intro us r
  obtain ⟨v,ws,rfl,q,r'⟩:=r.inv
  obtain ⟨t,rfl⟩:=q.int_v
  exact .cons i t (ih r')
def fe (i:Int) (v:Value):Bool:=match v with
 | .int j _=>j==i
 | _=>false
theorem ints_fe {A:Around} {i:Int} {t:Tok} {us:List Value} {is:List Int} (x:IntsAre us is):(∀ v∈us,EqAt A s v (.int i t) (fe i v))/\us.any (fe i)=is.any (i==·):=by
 induction x with
 | nil=>exact ⟨(fun _ h=>nomatch h),rfl⟩
 | cons n u _ ih=>exact ⟨fun v hv=>(List.mem_cons.mp hv).elim (fun e=>e▸EqAt.int_int n u i t) (ih.1 v),by rw [List.any_cons,List.any_cons,ih.2];exact congrArg (· || _) BEq.comm⟩
def fb (i:Bool) (v:Value):Bool:=match v with
 | .bool j=>j==i
 | _=>false
theorem bools_fb {A:Around} {i:Bool} {is:List Bool}:∀ {us:List Value},VRels h R us (is.map .bool)->(∀ v∈us,EqAt A s v (.bool i) (fb i v))/\us.any (fb i)=is.any (i==·):=by
 induction is with
 | nil=>intro us r;obtain rfl:=r.inv0;exact ⟨(fun _ h=>nomatch h),rfl⟩
 | cons n is ih =>
  intro us r
  obtain ⟨v,ws,rfl,q,r'⟩:=r.inv
  obtain rfl:=q.bool_v
  exact ⟨fun v hv=>(List.mem_cons.mp hv).elim (fun e=>e▸EqAt.bool_bool n i) ((ih r').1 v),by rw [List.any_cons,List.any_cons,(ih r').2];exact congrArg (· || _) BEq.comm⟩
theorem sim_in {t:Sem Value} {f:Bool->Bool} (P:Pre Γ s R st) (ra:VRel s.heap R a x) (rb:VRel s.heap R b y)
  (hk:∀ (e:Value->Bool) (l:Addr) (us:List Value),b=.ref l->s.heap.IsList l us.toArray->(∀ y∈us,EqAt Γ.A.in1 s y a (e y))->∀ {Q:Value->Shared->Prop} {E:Value->Shared->Prop},Q (.bool (f (us.any e))) s->wpAny Γ.M Γ.A t Q E s) :
  SimAt Γ VRel t (fun Q _=>inP x y st.H fun r=>Q (.bool (f r)) st) s R:=by
 refine .isRef fun l e=>.lst fun xs h1=>?_
 subst e
 obtain ⟨p,us,n,rfl,_,_,g,r⟩:=P.lst rb h1
 cases x with
 | int i =>
  refine .ex fun is=>.and fun e=>?_
  subst e
  obtain ⟨t',rfl⟩:=ra.int_v
  have k:=ints_fe (A:=Γ.A.in1) (s:=s) (i:=i) (t:=t') (ints_are r)
  exact .leaf P fun q=>hk (fe i) p us rfl (isList g) k.1 (by rw [k.2];exact q _ s.toks (.bool _))
 | bool i =>
  refine .ex fun is=>.and fun e=>?_
  subst e
  obtain rfl:=ra.bool_v
  have k:=bools_fb (A:=Γ.A.in1) (s:=s) (i:=i) r
  exact .leaf P fun q=>hk (fb i) p us rfl (isList g) k.1 (by rw [k.2];exact q _ s.toks (.bool _))
 | _=>exact .no
theorem sim_cmp {op:CmpOp} (P:Pre Γ s R st) (hu:Γ.A.units + 8 < cLine) (ra:VRel s.heap R a x) (rb:VRel s.heap R b y):SimAt Γ VRel (compareOp op a b) (fun Q _=>cmpP op x y st.H fun r=>Q (.bool r) st) s R:=by
 have hin:∀ {t:Sem Value} {k:Int->Int->Bool},(∀ i j t' u,a=.int i t'->b=.int j u->∀ {Q:Value->Shared->Prop} {E:Value->Shared->Prop},Q (.bool (k i j)) s->wpAny Γ.M Γ.A t Q E s) →
   SimAt Γ VRel t (fun Q _=>x.isInt fun i=>y.isInt fun j=>Q (.bool (k i j)) st) s R:=fun {t k} hk=>.isInt fun i e=>.isInt fun j f=>by
  subst e f
  obtain ⟨t',rfl⟩:=ra.int_v
  obtain ⟨u,rfl⟩:=rb.int_v
  exact .leaf P fun q=>hk i j t' u rfl rfl (q _ s.toks (.bool _))
 cases op with
 | Lt=>exact hin (k:=fun i j=>decide (i < j)) fun i j t u e f {Q E} h=>by subst e f;exact lt_int h
 | LtE=>exact hin (k:=fun i j=>decide (i<=j)) fun i j t u e f {Q E} h=>by subst e f;exact le_int h
 | Gt=>exact hin (k:=fun i j=>decide (j < i)) fun i j t u e f {Q E} h=>by subst e f;exact gt_int h
 | GtE=>exact hin (k:=fun i j=>decide (j<=i)) fun i j t u e f {Q E} h=>by subst e f;exact ge_int h
 | Eq=>exact sim_eqP (f:=id) P hu ra rb fun r q {Q E} h=>q.1 _ _ E Q h
 | NotEq=>exact sim_eqP (f:=not) P hu ra rb fun r q {Q E} h=>q.2 _ _ E Q h
 | Is =>
  refine .and fun e=>?_
  subst e
  obtain rfl:=rb.none_v
  exact sim_isNone (f:=id) P ra fun z {Q E} h=>wpAny_is_plain z h
 | IsNot =>
  refine .and fun e=>?_
  subst e
  obtain rfl:=rb.none_v
  exact sim_isNone (f:=not) P ra fun z {Q E} h=>wpAny_isNot_plain z h
 | In =>
  refine sim_in (f:=id) P ra rb fun e l us q g k {Q E} h=>?_
  subst q
  exact in_listAt e g (fun z hz=>k z (List.mem_toArray.mp hz)) (by rw [List.any_toArray];exact h)
 | NotIn =>
  refine sim_in (f:=not) P ra rb fun e l us q g k {Q E} h=>?_
  subst q
  exact notIn_listAt e g (fun z hz=>k z (List.mem_toArray.mp hz)) (by rw [List.any_toArray];exact h)
end
end Ab
end
section
set_option maxHeartbeats 4000000
namespace Ab
open PySem PySem.W PySem.Calls PyProof.Rows PyProof.Rows.TI Builtin
section
variable {prog:Program} {w:World} {A:Around}
theorem wpP_load {M:Model} {α:Type} {a:Addr} {p:Option Value} {k:Obj->Sem α} {o:Obj} {s:Shared} {Q:α->Shared->Prop} {E:Value->Shared->Prop} (ho:s.heap.get? a=some o) (h:wpP M A (k o) Q E s):wpP M A (.load a p k) Q E s:=fun Γ q hΓ hZ=>⟨o,ho,h Γ q hΓ hZ⟩
theorem codeP_call_builtin_at {id:String} {args:Args} {b:Builtin} {s:Shared} {Rr:Result->Shared->Prop} (hq:(Code.builtin id args).quiet=true) (hb:entryFor table id=some b) (hk:okCode (.builtin id args)=true)
  (h:wpP (model prog w) A.in1 (checkBuiltinCall id args) (fun _ s₁=>wpP (model prog w) (A.under (.builtin id args)) (b args)
   (fun fin s'=>match fin with|.done f=>Rr (.ok f) s'|.again c'=>c'.quiet=true/\codeP (model prog w) A c' Rr s') (fun e s'=>Rr (.error e) s') s₁)
   (fun e s'=>Rr (.error e) s') s):codeP (model prog w) A (.call (.builtin id) args) Rr s:=by
 refine codeP_of_tree ?_ rfl
 show wpP _ A.in1 (do checkBuiltinCall id args;again (.builtin id args)) _ _ s
 refine wpP_bind (wpP_mono h (fun _ s₁ h₁=>wpP_pure (And.intro hq (codeP_of_tree ?_ hk))) fun _ _ h'=>h')
 show wpP _ _ (match entryFor table id with|some b=>b args|none=>unsupported ((withoutEnding? id "#data").getD id)) _ _ s₁
 rw [hb];exact h₁
variable {C:Addr} {Rr:Result->Shared->Prop} {h:Heap} {g:Array GenState} {d:Drawn} {t:Nat} {os:OsState}
theorem make_coreP {rest:List Value} {init:Value} (Y:Makes (model prog w) h C) (hi:Looks (model prog w) h (typeLookup (.ref C) "__init__") (some init))
  (hb:∀ self,Looks (model prog w) h (bindSpecial init self) (init,[self])) (hne:(some init != some (Value.builtin "object.__init__"))=true)
  (hq:codeP (model prog w) (A.under (.builtin "type.__call__" ⟨.ref C::rest,[]⟩)) (.call init ⟨.ref (h.objs.size+1)::rest,[]⟩) (InitBack (h.objs.size+1) Rr) ⟨(h.push emptyDict).push (instObj C h.objs.size),g,d,t,os⟩) :
  codeP (model prog w) A (.call (.ref C) ⟨rest,[]⟩) Rr ⟨h,g,d,t,os⟩:=by
 have Y':=Y
 obtain ⟨⟨oc,od,cd,sl,hC,e1,e2,e4⟩,made,base,self,top,call,typ⟩:=Y
 refine codeP_of_tree ?_ rfl
 show wpP _ _ (callAny (.ref C) _) _ _ _
 refine wpP_load hC ?_
 show wpP _ _ (callAny.viaDunder (.ref C) _) _ _ _
 unfold callAny.viaDunder
 refine wpP_bind (wpP_of (call.at ?_))
 dsimp only
 rw [tc_bind]
 refine wpP_bind (wpP_pure (wpP_bind (wpP_pure ?_)))
 refine wpP_pure (a:=Fin.again (.call (.builtin "type.__call__") ⟨.ref C::rest,[]⟩)) (And.intro rfl ?_)
 refine codeP_call_builtin_at (Code.quiet_builtin _ (by decide +kernel)) entry_typeCall (show okCode (.builtin "type.__call__" ⟨[],[]⟩)=true by decide +kernel) (wpP_of (check_slot tc_kind tc_split typ (tc_args _ _ _) ?_))
 have hm:Looks (model prog w) h (mroOf (.ref C)) cd.mro:=((Looks.ld (part:=none) hC).andThen .now).andThen .now
 refine wpP_bind (m:=mroOf (.ref C)) (wpP_of (hm.at ?_))
 rw [if_neg (by rw [e4];decide)]
 refine wpP_bind (m:=Bind.madeBy (.ref C)) (wpP_of (made.at ?_))
 dsimp only
 refine wpP_bind (wpP_pure ?_)
 refine wpP_bind (wpP_holding ?_)
 refine wpP_of (wpAny_call ?_)
 refine new_K Y' hi (.inl hne) ?_
 have k:∀ b o,h.get? b=some o->((h.push emptyDict).push (instObj C h.objs.size)).get? b=some o:=fun b o e=>Heap.get?_push_of_some _ (Heap.get?_push_of_some _ e)
 have hx:((h.push emptyDict).push (instObj C h.objs.size)).get? (h.objs.size+1)=some (instObj C h.objs.size):=by heap_get
 have t1:Looks (model prog w) ((h.push emptyDict).push (instObj C h.objs.size)) (typeOf (.ref (h.objs.size+1))) (.ref C):=(Looks.ld hx).andThen .now
 have s1:=self.keeps k
 have i1:=hi.keeps k
 have b1:=(hb (.ref (h.objs.size+1))).keeps k
 have s2:Looks (model prog w) ((h.push emptyDict).push (instObj C h.objs.size)) (isInstance (.ref (h.objs.size+1)) (.ref C)) true:=t1.andThen s1
 dsimp only
 refine wpP_bind (wpP_of (s2.at ?_))
 rw [if_neg (by decide)]
 refine wpP_bind (wpP_holding ?_)
 unfold callSpecial? specialOf
 refine wpP_bind (wpP_bind (wpP_of (t1.at (wpP_of (i1.at ?_)))))
 dsimp only
 refine wpP_holding (wpP_bind (wpP_of (b1.at ?_)))
 dsimp only
 refine wpP_bind (wpP_call (codeP_mono hq fun r s' z=>?_))
 rcases r with e|(v|_|_|_) <;> first|exact z|exact z.elim|skip
 obtain ⟨rfl,z⟩:=z
 exact wpP_pure (wpP_pure z)
end
end Ab
end
section
namespace Ab
open PySem PySem.W PySem.Calls PyProof.Rows PyProof.Rows.TI
theorem plainAttrs_bytearray:PlainAttrs "bytearray" :=
 ⟨⟨"bytearray.__getattribute__",by rw [typeLookup_type,builtinLookup_eq_fast];kernel_rfl,by decide +kernel⟩,by rw [typeLookup_type,builtinLookup_eq_fast];kernel_rfl⟩
theorem slot_ba_append:Slot "bytearray" "append" "bytearray.append" :=
 .of (owner:="bytearray") (n:="append") (by rw [typeLookup_type,builtinLookup_eq_fast];kernel_rfl) (by decide +kernel) (by decide +kernel) (by decide +kernel)
  (by first|exact .inl (by decide +kernel)|exact .inr (by decide +kernel)) (by rw [isSubtype_type];kernel_rfl)
theorem slot_ba_extend:Slot "bytearray" "extend" "bytearray.extend" :=
 .of (owner:="bytearray") (n:="extend") (by rw [typeLookup_type,builtinLookup_eq_fast];kernel_rfl) (by decide +kernel) (by decide +kernel) (by decide +kernel)
  (by first|exact .inl (by decide +kernel)|exact .inr (by decide +kernel)) (by rw [isSubtype_type];kernel_rfl)
theorem slot_bytes_join:Slot "bytes" "join" "bytes.join" :=
 .of (owner:="bytes") (n:="join") (by rw [typeLookup_type,builtinLookup_eq_fast];kernel_rfl) (by decide +kernel) (by decide +kernel) (by decide +kernel)
  (by first|exact .inl (by decide +kernel)|exact .inr (by decide +kernel)) (by rw [isSubtype_type];kernel_rfl)
theorem type_ba_append:typeOf (.builtin "bytearray.append")=pure (.type "method_descriptor"):=by show builtinType _=_;rw [builtinType_eq_fast];kernel_rfl
theorem type_ba_extend:typeOf (.builtin "bytearray.extend")=pure (.type "method_descriptor"):=by show builtinType _=_;rw [builtinType_eq_fast];kernel_rfl
theorem type_bytes_join:typeOf (.builtin "bytes.join")=pure (.type "method_descriptor"):=by show builtinType _=_;rw [builtinType_eq_fast];kernel_rfl
theorem entry_ba_append:entryFor table "bytearray.append"=some Builtin.«bytearray.append»:=entryFor_of_tree (by kernel_rfl)
theorem entry_ba_extend:entryFor table "bytearray.extend"=some Builtin.«bytearray.extend»:=entryFor_of_tree (by kernel_rfl)
theorem entry_bytes_join:entryFor table "bytes.join"=some Builtin.«bytes.join»:=entryFor_of_tree (by kernel_rfl)
theorem owner_ba:Manifest.owners.lookup (String.ofList "bytearray".toList.reverse.reverse)=some Manifest.sig_bytearray:=by kernel_rfl
theorem args_ba_append (a b:Value):argsOk "bytearray.append" ⟨[a,b],[]⟩:=by
 unfold argsOk;kernel_rfl
theorem args_ba_extend (a b:Value):argsOk "bytearray.extend" ⟨[a,b],[]⟩:=by
 unfold argsOk;kernel_rfl
theorem args_bytes_join (a b:Value):argsOk "bytes.join" ⟨[a,b],[]⟩:=by
 unfold argsOk;kernel_rfl
end Ab
end
section
namespace Ab
open PySem PySem.W PySem.Calls PyProof.Rows PyProof.Rows.TI
open PySem.Sem (wp)
section
variable {prog:Program} {w:World} {M:Model} {A:Around} {E:Value->Shared->Prop} {s:Shared} {h h':Heap}
theorem okCode_id {id:String} {args:Args} (h:okCode (.builtin id args)=true):(["bytearray.__contains__","bytearray.__mod__","bytearray.__rmod__","_struct.pack_into.held","bytearray.find.held"]++Builtin.Bytes.decodersThatHold).contains id=false:=Bool.not_eq_true' _▸h
theorem okCode_of {id:String} {args:Args} (h:(["bytearray.__contains__","bytearray.__mod__","bytearray.__rmod__","_struct.pack_into.held","bytearray.find.held"]++Builtin.Bytes.decodersThatHold).contains id=false):okCode (.builtin id args)=true:=congrArg not h
theorem wpP_exported {v:Value} {Q:Bool->Shared->Prop} (h:Q false s):wpP M A (Builtin.Bytes.exported v) Q E s:=fun Γ p hΓ hZ=>by
 unfold Builtin.Bytes.exported
 have hall:∀ c∈(Γ.code,p)::Γ.below,okCode c.1=true:=fun c hc=>(List.mem_cons.mp hc).elim (fun e=>e▸hZ.1) (hZ.2 c)
 rw [Sem.wp_bind']
 show wp M Γ (Sem.stack Sem.pure) _ _ p s
 rw [Sem.wp_stack]
 generalize (Γ.code,p)::Γ.below=l at hall
 show Q (List.any l _) s
 rw [show List.any l _=false from ?_]
 ·exact h
 refine List.any_eq_false.mpr fun c hc=>Bool.eq_false_iff.mp ?_
 have hok:=hall c hc
 obtain ⟨c,q⟩:=c
 cases c with
 | builtin id args =>
  have n:=okCode_id hok
  have ne:∀ x:String,(["bytearray.__contains__","bytearray.__mod__","bytearray.__rmod__","_struct.pack_into.held","bytearray.find.held"]++Builtin.Bytes.decodersThatHold).contains x=true->¬ id=x:=fun x hx e=>by rw [e,hx] at n;cases n
  delta Builtin.Bytes.exported.match_1
  dsimp only
  refine (dif_neg (ne "bytearray.__contains__" (by decide +kernel))).trans ?_
  refine (dif_neg (ne "bytearray.__mod__" (by decide +kernel))).trans ?_
  refine (dif_neg (ne "bytearray.__rmod__" (by decide +kernel))).trans ?_
  refine (dif_neg (ne "_struct.pack_into.held" (by decide +kernel))).trans ?_
  refine (dif_neg (ne "bytearray.find.held" (by decide +kernel))).trans ?_
  rw [List.contains_eq_any_beq,List.any_append,Bool.or_eq_false_iff] at n
  obtain ⟨ps,kw⟩:=args
  cases ps with
  | nil=>rfl
  | cons a ps =>
   show (_&&Builtin.Bytes.decodersThatHold.contains id)=false
   rw [List.contains_eq_any_beq,n.2,Bool.and_false]
 | _=>rfl
theorem wpP_checkResize {a:Addr} {b:Array UInt8} {Q:Unit->Shared->Prop} (ho:s.heap.get? a=some { cls:=.type "bytearray",data:=.bytearray b 0 }) (h:Q () s):wpP M A (Builtin.Bytes.checkResize (.ref a)) Q E s:=by
 unfold Builtin.Bytes.checkResize
 refine wpP_bind (wpP_bind (wpP_exported ?_))
 refine wpP_of ?_
 show wpAny M A (do let x ← Builtin.Bytes.exportsOf (.ref a);pure (decide (x>0))) _ _ s
 refine wpAny_bind ?_
 unfold Builtin.Bytes.exportsOf
 refine wpAny_bind (wpAny_load ho ?_)
 refine wpAny_pure (wpAny_pure ?_)
 exact wpP_pure h
theorem wp_write {a:Addr} {b:Array UInt8} {f:Array UInt8->Array UInt8} {Q:Unit->Shared->Prop} (ho:s.heap.get? a=some { cls:=.type "bytearray",data:=.bytearray b 0 }) (hz:(f b).size<=sizeLine) (h:Q () { s with heap:=s.heap.update a (Obj.mapBytearray f) }):wpAny M A (Builtin.Bytes.write (.ref a) f) Q E s:=by
 unfold Builtin.Bytes.write updateBytearray
 refine wpAny_bind (wpAny_load ho ?_)
 dsimp only
 refine wpAny_bind (wpAny_update ho ?_)
 exact wpAny_lookBehind (Heap.get?_update_self _ ho rfl) (show (if (f b).size>sizeLine then some "bytearray:memory" else none)=none from if_neg (Nat.not_lt.mpr hz)) h
theorem upd_barr {a:Addr} {b:Array UInt8} {f:Array UInt8->Array UInt8} (ho:h.get? a=some { cls:=.type "bytearray",data:=.bytearray b 0 }):(h.update a (Obj.mapBytearray f)).get? a=some { cls:=.type "bytearray",data:=.bytearray (f b) 0 }:=Heap.get?_update_self _ ho rfl
theorem callP {T:String} {name:Str} {id:String} {b:Builtin} {self:Value} {rest:List Value} {Q:Value->Shared->Prop} (slot:Slot T name id) (hT:s.TypeIs self T)
  (entry:entryFor table id=some b) (args:argsOk id ⟨self::rest,[]⟩) (hok:okCode (.builtin id ⟨self::rest,[]⟩)=true)
  (h:wpP (model prog w) (A.under (.builtin id ⟨self::rest,[]⟩)) (b ⟨self::rest,[]⟩) (fun fin s'=>match fin with|.done (.ret v)=>Q v s'|_=>False) E s):wpP (model prog w) A (call (.builtin id) (self::rest)) Q E s:=by
 have hin:codeP (model prog w) A (.builtin id ⟨self::rest,[]⟩) (fun r s'=>match r with|.ok (.ret v)=>Q v s'|.ok _=>False|.error e=>E e s') s:=by
  refine codeP_of_tree ?_ hok
  show wpP _ _ (match entryFor table id with|some b=>b ⟨self::rest,[]⟩|none=>unsupported ((withoutEnding? id "#data").getD id)) _ _ s
  rw [entry]
  refine wpP_mono h (fun fin s' h'=>?_) fun _ _ h'=>h'
  cases fin with
  | done f=>cases f with
   | ret v=>exact h'
   | _=>exact h'.elim
  | again c=>exact h'.elim
 refine wpP_call (codeP_of_tree ?_ (by rfl))
 show wpP _ A.in1 (do checkBuiltinCall id ⟨self::rest,[]⟩;again (.builtin id ⟨self::rest,[]⟩)) _ _ s
 exact wpP_bind (wpP_of (slot.check _ _ _ _ _ _ _ _ hT args (wpP_pure (And.intro (plainId_quiet slot.plain _) hin))))
theorem look_buffer_bytes:typeLookup (.type "bytes") "__buffer__"=pure (some (.builtin "bytes.__buffer__")):=by rw [typeLookup_type,builtinLookup_eq_fast];kernel_rfl
theorem special_buffer (b:Array UInt8) (t:Tok):specialOf (.bytes b t) "__buffer__"=pure (some (.builtin "bytes.__buffer__")):=by
 unfold specialOf
 show (pure (Value.type "bytes"):Sem Value) >>= (fun t=>typeLookup t "__buffer__")=_
 rw [pure_bind]
 exact look_buffer_bytes
theorem takeBuffer_bytes {id:String} {b:Array UInt8} {t:Tok} {Q:Option (Array UInt8×Option Value)->Shared->Prop} (h:Q (some (b,none)) s):wpAny M A (Builtin.Bytes.takeBufferQuiet? id (.bytes b t) 0) Q E s:=by
 unfold Builtin.Bytes.takeBufferQuiet? Builtin.Bytes.takeBuffer?
 rw [special_buffer,KBy.own_buffer,show ((0:Int)==Builtin.Bytes.fullReadOnly)=false from by decide +kernel,KBy.buffer_eq]
 exact wpAny_pure h
theorem wp_payload_barr {a:Addr} {b:Array UInt8} {Q:Array UInt8->Shared->Prop} (ho:s.heap.get? a=some { cls:=.type "bytearray",data:=.bytearray b 0 }) (h:Q b s):wpAny M A (Builtin.Bytes.payload (.ref a)) Q E s:=by
 unfold Builtin.Bytes.payload Builtin.Bytes.payload?
 exact wpAny_bind (wpAny_bind (wpAny_load ho (wpAny_pure (wpAny_pure h))))
theorem wp_addAtEnd {a:Addr} {b c:Array UInt8} {Q:Fin->Shared->Prop} (ho:s.heap.get? a=some { cls:=.type "bytearray",data:=.bytearray b 0 }) (hz:b.size + c.size<=sizeLine) (h:Q (.done (.ret .none)) { s with heap:=s.heap.update a (Obj.mapBytearray (·++c)) }) :
  wpP M A (do
   if !c.isEmpty then Builtin.Bytes.checkResize (.ref a)
   Builtin.Bytes.write (.ref a) (·++c)
   ret .none) Q E s:=by
 have hw:wpP M A (do
   Builtin.Bytes.write (.ref a) (·++c)
   ret .none) Q E s:=wpP_bind (wpP_of (wp_write ho (by simpa using hz) (wpP_pure h)))
 show wpP M A (if (!c.isEmpty)=true then (Builtin.Bytes.checkResize (.ref a) >>= fun _=>_) else _) Q E s
 split
 ·exact wpP_bind (wpP_checkResize ho hw)
 ·exact hw
end
theorem ba_mro:mroOf (.type "bytearray")=pure [.type "bytearray",.type "object"]:=by rw [mroOf_type];kernel_rfl
theorem ba_lookup_new:typeLookup (.type "bytearray") "__new__"=pure (some (.builtin "bytearray.__new__")):=by rw [typeLookup_type,builtinLookup_eq_fast];kernel_rfl
theorem ba_slot_init:Slot "bytearray" "__init__" "bytearray.__init__" :=
 .of (owner:="bytearray") (n:="__init__") (by rw [typeLookup_type,builtinLookup_eq_fast];kernel_rfl) (by decide +kernel) (by decide +kernel) (by decide +kernel)
  (by first|exact .inl (by decide +kernel)|exact .inr (by decide +kernel)) (by rw [isSubtype_type];kernel_rfl)
theorem ba_called:TypeCalled "bytearray" "bytearray.__new__" "bytearray.__init__" :=
 ⟨by decide +kernel,by decide +kernel,⟨_,_,ba_mro⟩,madeBy_type ba_mro ba_lookup_new (by decide +kernel),by decide +kernel,by rw [isSubtype_type];kernel_rfl,ba_slot_init⟩
theorem ba_typeCall:checkTypeCall "bytearray" ⟨[],[]⟩=pure ():=by kernel_rfl
theorem ba_newCall:checkBuiltinCall "bytearray.__new__" ⟨[.type "bytearray"],[]⟩=pure ():=by kernel_rfl
theorem ba_entry_new:entryFor table "bytearray.__new__"=some Builtin.«list.__new__»:=entryFor_alias (id':="list.__new__") (by kernel_rfl) (by first|rfl|decide +kernel) (by decide +kernel) (by kernel_rfl)
theorem ba_entry_init:entryFor table "bytearray.__init__"=some Builtin.«bytearray.__init__»:=entryFor_of_tree (by kernel_rfl)
set_option maxHeartbeats 4000000 in
theorem ba_owner:("bytearray.__new__".splitOn ".__new__").headD ""="bytearray":=by simp +decide [String.splitOn,String.splitOnAux]
theorem ba_bind:Builtin.Bytes.bindOptional "bytearray.__init__" "bytearray" ["source","encoding","errors"] [] []=pure [none,none,none]:=by kernel_rfl
theorem ba_args_init (a:Value):argsOk "bytearray.__init__" ⟨[a],[]⟩:=by
 unfold argsOk;kernel_rfl
theorem ba_sub:isSubtype (.type "bytearray") (.type "bytearray")=pure true:=by rw [isSubtype_type];kernel_rfl
theorem ba_look_release:typeLookup (.type "bytearray") "__release_buffer__"=pure (some (.builtin "bytearray.__release_buffer__")):=by rw [typeLookup_type,builtinLookup_eq_fast];kernel_rfl
theorem ba_look_buffer:typeLookup (.type "bytearray") "__buffer__"=pure (some (.builtin "bytearray.__buffer__")):=by rw [typeLookup_type,builtinLookup_eq_fast];kernel_rfl
theorem ba_no_bytes:typeLookup (.type "bytearray") "__bytes__"=pure none:=by rw [typeLookup_type,builtinLookup_eq_fast];kernel_rfl
theorem ba_no_index:typeLookup (.type "bytearray") "__index__"=pure none:=by rw [typeLookup_type,builtinLookup_eq_fast];kernel_rfl
theorem by_look_bytes:typeLookup (.type "bytes") "__bytes__"=pure (some (.builtin "bytes.__bytes__")):=by rw [typeLookup_type,builtinLookup_eq_fast];kernel_rfl
section
variable {prog:Program} {w:World} {M:Model} {A:Around} {E:Value->Shared->Prop} {s:Shared} {h h':Heap}
theorem ba_code_new {Q₁:Value->Shared->Prop}
  (h:Q₁ (.ref s.heap.objs.size) { s with heap:=s.heap.push { cls:=.type "bytearray",data:=.bytearray #[] } }) :
  codeAny (model prog w) A (.call (.builtin "bytearray.__new__") ⟨[.type "bytearray"],[]⟩) (wants Q₁ E) s:=by
 refine codeAny_of_tree ?_
 show wpAny _ A.in1 (do checkBuiltinCall "bytearray.__new__" ⟨[.type "bytearray"],[]⟩;again (.builtin "bytearray.__new__" ⟨[.type "bytearray"],[]⟩)) _ _ s
 have hpl:plainId "bytearray.__new__"=true:=by decide +kernel
 refine wpAny_bind (wpAny_of_eq ba_newCall (wpAny_pure ⟨plainId_quiet hpl _,codeAny_builtin_stack ba_entry_new rfl fun p st=>?_⟩))
 rw [Around.under_plainId hpl _]
 have hsub:=ba_sub
 have hown:=ba_owner
 obtain ⟨hp,g,d,tk,os⟩:=s
 simp only [hown]
 wp_walk
 exact h
theorem wp_own_ba {a:Addr} {o:Obj} {name:String} {id:String} {Q:Bool->Shared->Prop} (ho:s.heap.get? a=some o) (hc:o.cls=.type "bytearray") (hl:typeLookup (.type "bytearray") (Str.ofString name)=pure (some (.builtin id)))
  (h1:id.endsWith ("."++name)=true) (h2:id.dropRight (name.length+1)="bytearray") (hq:Q true s):wpAny (model prog w) A (Builtin.Bytes.slotIsOwn (.ref a) name) Q E s:=by
 have hT:s.TypeIs (.ref a) "bytearray":=⟨o,ho,hc⟩
 unfold Builtin.Bytes.slotIsOwn
 refine wpAny_bind (wpAny_specialOf hT hl ?_)
 dsimp only
 rw [if_neg (by rw [h1];decide),h2]
 exact wpAny_isInstance hT ba_sub hq
theorem wp_ownRelease_ba {a:Addr} {o:Obj} {Q:Bool->Shared->Prop} (ho:s.heap.get? a=some o) (hc:o.cls=.type "bytearray") (hq:Q false s):wpAny (model prog w) A (Builtin.Bytes.ownRelease (.ref a)) Q E s:=by
 unfold Builtin.Bytes.ownRelease
 exact wpAny_bind (wp_own_ba ho hc ba_look_release (by decide +kernel) (by decide +kernel) (wpAny_pure hq))
theorem wp_buffer_ba {a:Addr} {b:Array UInt8} {id:String} {full:Bool} {Q:Option (Array UInt8)->Shared->Prop} (ho:s.heap.get? a=some { cls:=.type "bytearray",data:=.bytearray b 0 }) (hq:Q (some b) s):wpAny (model prog w) A (Builtin.Bytes.buffer? id (.ref a) full) Q E s:=by
 have hT:s.TypeIs (.ref a) "bytearray":=⟨_,ho,rfl⟩
 unfold Builtin.Bytes.buffer?
 refine wpAny_bind (wpAny_specialOf hT ba_look_buffer ?_)
 dsimp only
 refine wpAny_bind (wp_own_ba ho rfl ba_look_buffer (by decide +kernel) (by decide +kernel) ?_)
 rw [if_neg (by decide)]
 refine wpAny_bind (wpAny_specialOf hT ba_look_buffer ?_)
 show wpAny _ _ (Builtin.Bytes.ownRelease (.ref a) >>= _) _ _ _
 refine wpAny_bind (wp_ownRelease_ba ho rfl ?_)
 rw [if_neg (by decide)]
 exact wpAny_bind (wp_payload_barr ho (wpAny_pure hq))
theorem ba_init {a:Addr} {Q:PySem.Fin->Shared->Prop} (ho:s.heap.get? a=some { cls:=.type "bytearray",data:=.bytearray #[] 0 }) (hq:Q (.done (.ret .none)) { s with heap:=s.heap.update a (Obj.mapBytearray fun _=>#[]) }) :
  wpP (model prog w) A (Builtin.«bytearray.__init__» ⟨[.ref a],[]⟩) Q E s:=by
 unfold Builtin.«bytearray.__init__»
 dsimp only
 refine wpP_bind (wpP_of (wp_ownRelease_ba ho rfl ?_))
 rw [if_neg (by decide)]
 rw [ba_bind]
 refine wpP_bind (wpP_pure ?_)
 dsimp only
 refine wpP_bind (wpP_of (wpAny_of_eq (a:=()) rfl ?_))
 refine wpP_bind (wpP_of (wpAny_of_eq (a:=()) rfl ?_))
 refine wpP_bind (wpP_bind (wpP_exported ?_))
 refine wpP_of ?_
 show wpAny _ A (do let x ← Builtin.Bytes.exportsOf (.ref a);pure (decide (x>0))) _ _ s
 refine wpAny_bind ?_
 unfold Builtin.Bytes.exportsOf
 refine wpAny_bind (wpAny_load ho ?_)
 refine wpAny_pure (wpAny_pure ?_)
 rw [if_neg (by decide)]
 refine wpP_bind (wpP_of (wp_write ho (by decide +kernel) ?_))
 exact wpP_pure hq
theorem codeP_builtin {id:String} {args:Args} {b:Builtin} {Rr:Result->Shared->Prop} (hb:entryFor table id=some b) (hk:okCode (.builtin id args)=true)
  (h:wpP (model prog w) (A.under (.builtin id args)) (b args) (fun fin s'=>match fin with|.done f=>Rr (.ok f) s'|.again c'=>c'.quiet=true/\codeP (model prog w) A c' Rr s') (fun e s'=>Rr (.error e) s') s):codeP (model prog w) A (.builtin id args) Rr s:=by
 refine codeP_of_tree ?_ hk
 show wpP _ _ (match entryFor table id with|some b=>b args|none=>unsupported ((withoutEnding? id "#data").getD id)) _ _ s
 rw [hb];exact h
theorem ba_enter {Q:Value->Shared->Prop} (hin:codeP (model prog w) A (.builtin "type.__call__" ⟨[.type "bytearray"],[]⟩) (fun r s'=>match r with|.ok (.ret v)=>Q v s'|.ok _=>False|.error e=>E e s') s) :
  wpP (model prog w) A (call (.type "bytearray") []) Q E s:=by
 have hq1:(Code.builtin "type.__call__" ⟨[.type "bytearray"],[]⟩).quiet=true:=Code.quiet_builtin _ (by decide +kernel)
 refine wpP_call (codeP_of_tree ?_ (by rfl))
 show wpP _ A.in1 (again (.builtin "type.__call__" ⟨[.type "bytearray"],[]⟩)) _ _ s
 exact wpP_pure (And.intro hq1 hin)
theorem ba_call {Q:Value->Shared->Prop} (hq:Q (.ref s.heap.objs.size) { s with heap:=(s.heap.push { cls:=.type "bytearray",data:=.bytearray #[] }).update s.heap.objs.size (Obj.mapBytearray fun _=>#[]) }) :
  wpP (model prog w) A (call (.type "bytearray") []) Q E s:=by
 have ft:=ba_called
 obtain ⟨c,tl,hmro⟩:=ft.mro
 refine ba_enter (codeP_builtin F.entry_type_call (okCode_of (by decide +kernel)) ?_)
 unfold Builtin.«type.__call__»
 dsimp only
 rw [if_neg (by rw [ft.notType];decide),if_neg (by rw [ft.canCreate];decide)]
 refine wpP_bind (wpP_of (wpAny_of_eq ba_typeCall ?_))
 refine wpP_bind (wpP_of (wpAny_of_eq hmro ?_))
 rw [if_neg (by simp)]
 refine wpP_bind (m:=Bind.madeBy (.type "bytearray")) (wpP_of (wpAny_of_eq ft.made ?_))
 dsimp only
 refine wpP_bind (wpP_pure ?_)
 refine wpP_bind (wpP_holding ?_)
 refine wpP_of (wpAny_call ?_)
 refine ba_code_new ?_
 have g:((s.heap.push { cls:=.type "bytearray",data:=.bytearray #[] }).get? s.heap.objs.size)=some { cls:=.type "bytearray",data:=.bytearray #[] 0 }:=Heap.get?_push_size _ rfl
 have hT:({ s with heap:=s.heap.push { cls:=.type "bytearray",data:=.bytearray #[] } }:Shared).TypeIs (.ref s.heap.objs.size) "bytearray":=⟨_,g,rfl⟩
 refine wpP_bind (wpP_of (wpAny_isInstance hT ba_sub ?_))
 rw [if_neg (by decide)]
 refine wpP_bind (wpP_holding ?_)
 unfold callSpecial?
 refine wpP_bind (wpP_of (wpAny_specialOf hT ba_slot_init.lookup ?_))
 dsimp only
 refine wpP_holding (wpP_bind (wpP_of (wpAny_of_eq (ba_slot_init.bind _) ?_)))
 dsimp only
 refine wpP_bind (wpP_call ?_)
 refine codeP_call_builtin_at (plainId_quiet ba_slot_init.plain _) ba_entry_init (okCode_of (by decide +kernel)) (wpP_of (ba_slot_init.check _ _ _ _ _ _ _ _ hT (ba_args_init _) ?_))
 refine ba_init g ?_
 refine wpP_pure (wpP_pure ?_)
 exact hq
end
section
variable {Γ:Cx} {s s' s'':Shared} {R R' R'':Reg} {st st' st'':St} {h h':Heap} {H:AH} {a b:Value} {x y:AV}
inductive IsBar (h:Heap) (R:Reg) (v:Value) (l:Nat) (b:List UInt8):Prop
 | mk (a:Addr) (e:v=.ref a) (g:R[l]?=some (a,a)) (z:b.length<=LIM) (i:h.get? a=some { cls:=.type "bytearray",data:=.bytearray b.toArray 0 })
theorem Pre.bar {v:Value} {l:Nat} {xs:List UInt8} (P:Pre Γ s R st) (r:VRel s.heap R v (.ref l)) (e:st.H[l]?=some (.barr xs)):IsBar s.heap R v l xs:=by
 obtain ⟨a,b,rfl,g⟩:=r.ref_v
 obtain ⟨e1,z,i⟩:=P.sat.at g e
 obtain rfl:a=b:=e1
 exact ⟨a,rfl,g,z,i⟩
theorem bar_set {f:Array UInt8->Array UInt8} {l:Nat} {a:Addr} {bs cs:List UInt8} {Q:KV} (P:Pre Γ s R st) (K:FxOk Γ.X) (e:R[l]?=some (a,a)) (g:s.heap.get? a=some { cls:=.type "bytearray",data:=.bytearray bs.toArray 0 }) (hr:f bs.toArray=cs.toArray) (z:cs.length<=LIM) (h:Q .none ⟨st.fr,st.H.set l (.barr cs)⟩) :
  Lift Γ VRel s R Q .none { s with heap:=s.heap.update a (Obj.mapBytearray f) } :=
 ⟨_,_,R,h,After.upd (tk:=s.toks) P K e (fun b o hb e=>(Heap.get?_update_ne _ _ _ _ hb).trans e) (upd_barr g) ⟨rfl,z,hr▸upd_barr g⟩,.none⟩
theorem sim_bappend {l n:Nat} {u:Tok} {bs:List UInt8} (P:Pre Γ s R st) (K:FxOk Γ.X) (r:VRel s.heap R a (.ref l)) (hl:st.H[l]?=some (.barr bs)) (hi:n < 256) (hz:bs.length < LIM) :
  SimAt Γ VRel (call (.builtin "bytearray.append") [a,.int n u]) (fun Q _=>Q .none ⟨st.fr,st.H.set l (.barr (bs++[UInt8.ofNat n]))⟩) s R:=fun Q E hp=>by
 obtain ⟨a,rfl,e,_,g⟩:=P.bar r hl
 refine callP slot_ba_append ⟨_,g,rfl⟩ entry_ba_append (args_ba_append _ _) (okCode_of (by decide +kernel)) ?_
 show wpP _ _ (do
  let (self,x) ← selfAndOne "bytearray.append" ⟨[.ref a,.int n u],[]⟩
  let c ← Builtin.Bytes.byteValue x
  Builtin.Bytes.checkResize self
  Builtin.Bytes.write self (·.push c)
  ret .none) _ _ s
 refine wpP_bind (wpP_pure (a:=(Value.ref a,Value.int n u)) ?_)
 refine wpP_bind (wpP_of ?_)
 unfold Builtin.Bytes.byteValue asIndex
 refine wpAny_bind (wpAny_bind (wpAny_pure (a:=some (n:Int)) (wpAny_pure ?_)))
 rw [if_neg (by simp;omega)]
 refine wpAny_bind (wpAny_pure (wpAny_pure ?_))
 have hs:(bs++[UInt8.ofNat n]).length<=LIM:=by rw [List.length_append];exact hz
 have h1:(fun x:Array UInt8=>x.push (n:Int).toNat.toUInt8) bs.toArray=(bs++[UInt8.ofNat n]).toArray:=List.push_toArray bs (UInt8.ofNat n)
 exact wpP_bind (wpP_checkResize g (wpP_bind (wpP_of (wp_write g (by rw [Array.size_push,List.size_toArray];exact Nat.le_trans hz LIM_line) (wpP_pure (bar_set P K e g h1 hs hp))))))
theorem sim_bextend {l:Nat} {u:Tok} {bs cs:List UInt8} (P:Pre Γ s R st) (K:FxOk Γ.X) (r:VRel s.heap R a (.ref l)) (hl:st.H[l]?=some (.barr bs)) (hz:bs.length + cs.length<=LIM) :
  SimAt Γ VRel (call (.builtin "bytearray.extend") [a,.bytes cs.toArray u]) (fun Q _=>Q .none ⟨st.fr,st.H.set l (.barr (bs++cs))⟩) s R:=fun Q E hp=>by
 obtain ⟨a,rfl,e,_,g⟩:=P.bar r hl
 refine callP slot_ba_extend ⟨_,g,rfl⟩ entry_ba_extend (args_ba_extend _ _) (okCode_of (by decide +kernel)) ?_
 unfold Builtin.«bytearray.extend»
 refine wpP_bind (wpP_pure (a:=(Value.ref a,Value.bytes cs.toArray u)) ?_)
 dsimp only
 refine wpP_bind (wpP_of ?_)
 rw [special_buffer]
 refine wpAny_pure ?_
 rw [if_pos (show (some (Value.builtin "bytes.__buffer__")).isSome=true from rfl)]
 refine wpP_bind (wpP_of (wpAny_rule ?_))
 refine wpP_bind (wpP_of (wp_payload_barr g ?_))
 refine wpP_bind (wpP_of (takeBuffer_bytes ?_))
 dsimp only
 rw [if_pos (show (none:Option Value).isNone=true from rfl)]
 have hs:(bs++cs).length<=LIM:=by rw [List.length_append];exact hz
 have h1:(fun x:Array UInt8=>x++cs.toArray) bs.toArray=(bs++cs).toArray:=List.append_toArray bs cs
 exact wp_addAtEnd g (Nat.le_trans (show _<=LIM from hz) LIM_line) (bar_set P K e g h1 hs hp)
theorem sim_bytearray (P:Pre Γ s R st):SimAt Γ VRel (call (.type "bytearray") []) (fun Q _=>Q (.ref st.H.length) ⟨st.fr,st.H++[.barr []]⟩) s R:=fun Q E hp =>
 ba_call ⟨_,_,_,hp,After.alloc (tk:=s.toks) P (fun b o e=>(Heap.get?_update_ne _ _ _ _ (Nat.ne_of_lt (Heap.lt_size e))).trans (Heap.get?_push_of_some _ e)) (get_size_none _) (get_size_none _) ⟨rfl,Nat.zero_le _,upd_barr (Heap.get?_push_size _ rfl)⟩,newRefV P⟩
end
end Ab
end
section
namespace Ab
open PySem PySem.W PySem.Calls PyProof.Rows PyProof.Rows.TI
noncomputable def allBut (h:Heap) (L:Addr):List (Addr×Obj):=(List.range h.objs.size).filterMap fun a=>if a=L then none else (h.get? a).map fun o=>(a,o)
theorem mem_allBut {h:Heap} {L b:Addr} {o:Obj}:(b,o)∈allBut h L↔b≠L/\h.get? b=some o:=by
 unfold allBut
 rw [List.mem_filterMap]
 constructor
 ·rintro ⟨a,_,e⟩
  by_cases ha:a=L
  ·rw [if_pos ha] at e;cases e
  ·rw [if_neg ha] at e
   obtain ⟨o',e1,e2⟩:=Option.map_eq_some_iff.mp e
   cases e2;exact ⟨ha,e1⟩
 ·rintro ⟨hb,e⟩
  exact ⟨b,List.mem_range.mpr (Heap.lt_size e),by rw [if_neg hb,e];rfl⟩
noncomputable def noHeap:Heap:={}
theorem noHeap_get (a:Addr):noHeap.get? a=none:=by
 unfold noHeap Heap.get?;simp
theorem news_allBut (h:Heap) (L:Addr):News noHeap L h (allBut h L):=fun p hp=>by
 obtain ⟨b,o⟩:=p
 obtain ⟨h1,h2⟩:=mem_allBut.mp hp
 exact ⟨h2,h1,noHeap_get _⟩
theorem fr_of_ns {h:Heap} {L:Addr} {m:Str->Option Value} (n:h.Ns L m):Fr noHeap L h m:=⟨n,(fun b o e=>by rw [noHeap_get] at e;cases e),Nat.zero_le _⟩
theorem keep_of_news {h h':Heap} {L:Addr} {news:List (Addr×Obj)} (N:News noHeap L h' news) (hs:∀ p∈allBut h L,p∈news):∀ b o,b≠L->h.get? b=some o->h'.get? b=some o :=
 fun b o hb e=>(N (b,o) (hs _ (mem_allBut.mpr ⟨hb,e⟩))).1
theorem by_look_len:typeLookup (.type "bytes") "__len__"=pure (some (.builtin "bytes.__len__")):=by rw [typeLookup_type,builtinLookup_eq_fast];kernel_rfl
section
variable {prog:Program} {w:World} {M:Model} {A:Around} {E:Value->Shared->Prop} {s:Shared} {h h':Heap}
theorem by_hint {b:Array UInt8} {t:Tok} {Q:Bool->Shared->Prop} (hq:Q false s):wpAny (model prog w) A (Builtin.List.listLengthHint (.bytes b t)) Q E s:=by
 unfold Builtin.List.listLengthHint
 refine wpAny_bind (wpAny_specialOf (PySem.W.typeIs_bytes s b t) by_look_len ?_)
 generalize hid:("bytes.__len__":String)=id0
 wp_delta
 rw [show splitId id0=some ("bytes","__len__") from by subst hid;decide +kernel]
 subst hid
 refine wpAny_bind (wpAny_isInstance (PySem.W.typeIs_bytes s b t) F.bm_sub ?_)
 refine wpAny_ite_split (fun hab=>absurd hab (by decide)) (fun _=>?_)
 refine wpAny_ite_split (fun _=>?_) (fun hab=>absurd (by decide +kernel) hab)
 refine wpAny_bind (wpAny_of_eq (a:=.type "bytes") rfl ?_)
 exact wpAny_pure hq
theorem by_extend {R:Result->Shared->Prop} {b:Array UInt8} {t:Tok} (hh:A.handled=none) (S:Addr) (res:Value) (c₀:Nat) (hS:s.heap.get? S=some { cls:=.type "list",data:=.seq #[] c₀ })
  (hR:∀ h' tk acc' c',(∀ b o,b≠S->s.heap.get? b=some o->h'.get? b=some o)->h'.get? S=some { cls:=.type "list",dict:=none,data:=.seq acc' c',slots:=#[] }->ItemsOf (fun i v=>∃ c u,b[i]?=some c/\v=.int (c.toNat:Int) u) acc' b.size->R (.ok (.ret res)) { s with heap:=h',toks:=tk }) (hn:b.size<=sizeLine) :
  wpAny (model prog w) A.in1 (Builtin.List.listExtendWith (.ref S) (.bytes b t) res)
   (fun fin s'=>match fin with|.done f=>R (.ok f) s'|.again c'=>c'.quiet=true/\codeAny (model prog w) A c' R s') (fun e s'=>R (.error e) s') s:=by
 have hSI:S≠s.heap.objs.size:=Nat.ne_of_lt (Heap.lt_size hS)
 have hSf:S∉[s.heap.objs.size]:=fun hm=>hSI (List.mem_singleton.mp hm)
 have W:=KBw.walks (prog:=prog) (w:=w) (A:=A.in1) hh s.heap.objs.size b t
 have key:∀ (h:Heap) (c₁ tk:Nat),KBw.IsBytesIter h s.heap.objs.size b t 0->(∀ b o,b≠S->s.heap.get? b=some o->h.get? b=some o) →
   h.get? S=some { cls:=.type "list",data:=.seq #[] c₁ }->codeAny (model prog w) A (.builtin "list.extend.loop" ⟨[.ref S,.ref s.heap.objs.size,res],[]⟩) R { s with heap:=h,toks:=tk }:=by
  intro h c₁ tk hst hk hS₁
  refine codeAny_extend_loopS W.toS hn S hSf res b.size 0 _ #[] c₁ rfl (Nat.zero_le _) hst hS₁ (ItemsOf.nil _) fun s' acc' c' hm hS' hacc=>?_
  rw [Moved.eq_with hm]
  refine hR s'.heap s'.toks acc' c' (fun b o hb e=>hm.heap b o (fun hmem=>?_) (hk b o hb e)) hS' hacc
  rcases List.mem_cons.mp hmem with e'|hmem
  ·exact hb e'
  ·exact absurd (Heap.lt_size e) (by rw [List.mem_singleton.mp hmem];exact Nat.lt_irrefl _)
 unfold Builtin.List.listExtendWith
 refine wpAny_bind (wpAny_of_eq (a:=.type "bytes") rfl ?_)
 have g1:Builtin.List.listSameRef (.ref S) (.bytes b t)=false:=rfl
 have g2:(Value.type "bytes"==Value.type "list")=false:=by decide
 have g3:(Value.type "bytes"==Value.type "tuple")=false:=by decide
 simp only [g1,g2,g3,Bool.or_false,Bool.false_eq_true,if_false]
 refine wpAny_bind (KBw.pyIter_bytes ?_)
 have st:KBw.IsBytesIter (s.heap.push { cls:=.type "bytes_iterator",data:=.fields #[.bytes b t,.int 0 0] }) s.heap.objs.size b t 0:=⟨_,Heap.get?_push_size _ rfl,rfl,rfl⟩
 have hS₁:=Heap.get?_push_of_some { cls:=.type "bytes_iterator",data:=.fields #[.bytes b t,.int 0 0] } hS
 refine wpAny_bind (wpAny_holding (by_hint ?_))
 refine wpAny_ite_split (fun _=>?_) (fun _=>wpAny_pure ⟨plainId_quiet PySem.F.plain_extend_loop _,key _ c₀ _ st (fun b o _ e=>Heap.get?_push_of_some _ e) hS₁⟩)
 refine wpAny_bind (wpAny_rule ?_)
 refine wpAny_bind ?_
 show wpAny _ _ (updateSeq S (·.push .none) >>= fun _=>updateSeq S (·.pop)) _ _ _
 refine wpAny_bind (wpAny_updateSeq hS₁ rfl ?_)
 have hS₂:=Heap.get?_update_self (Obj.mapSeq (·.push Value.none)) hS₁ rfl
 refine wpAny_updateSeq (hz:=by seq_fits) hS₂ rfl ?_
 have hS₃:=Heap.get?_update_self (Obj.mapSeq (·.pop)) hS₂ rfl
 refine wpAny_pure ⟨plainId_quiet PySem.F.plain_extend_loop _,key _ _ _ ?_ (fun b o hb e=>?_) hS₃⟩
 ·refine W.frame 0 _ _ st fun b hb o e=>?_
  have hbS:b≠S:=fun h=>hSf (h▸hb)
  exact (Heap.get?_update_other _ _ (Ne.symm hbS)).trans ((Heap.get?_update_other _ _ (Ne.symm hbS)).trans e)
 ·exact (Heap.get?_update_other _ _ (Ne.symm hb)).trans ((Heap.get?_update_other _ _ (Ne.symm hb)).trans (Heap.get?_push_of_some _ e))
theorem by_init {R:Result->Shared->Prop} {b:Array UInt8} {t:Tok} (hh:A.handled=none) (S:Addr) (hS:s.heap.get? S=some { cls:=.type "list",data:=.seq #[] })
  (hR:∀ h' tk acc' c',(∀ b o,b≠S->s.heap.get? b=some o->h'.get? b=some o)->h'.get? S=some { cls:=.type "list",dict:=none,data:=.seq acc' c',slots:=#[] }->ItemsOf (fun i v=>∃ c u,b[i]?=some c/\v=.int (c.toNat:Int) u) acc' b.size->R (.ok (.ret .none)) { s with heap:=h',toks:=tk }) (hn:b.size<=sizeLine) :
  wpAny (model prog w) A.in1 (Builtin.«list.__init__» ⟨[.ref S,.bytes b t],[]⟩)
   (fun fin s'=>match fin with|.done f=>R (.ok f) s'|.again c'=>c'.quiet=true/\codeAny (model prog w) A c' R s') (fun e s'=>R (.error e) s') s:=by
 show wpAny _ _ (do let old ← Builtin.List.listItems (.ref S);Builtin.List.listUpdate (.ref S) (fun _=>#[]);letGo old.toList.reverse;Builtin.List.listExtendWith (.ref S) (.bytes b t) .none) _ _ s
 refine wpAny_bind ?_
 unfold Builtin.List.listItems
 refine wpAny_bind (wpAny_seqItems hS rfl (wpAny_pure ?_))
 show wpAny _ _ (updateSeq S (fun _=>#[]) >>= fun _=>letGo (#[]:Array Value).toList.reverse >>= fun _=>Builtin.List.listExtendWith (.ref S) (.bytes b t) .none) _ _ s
 refine wpAny_bind (wpAny_updateSeq hS rfl ?_)
 have hS₂:=Heap.get?_update_self (Obj.mapSeq (fun _=>(#[]:Array Value))) hS rfl
 refine wpAny_bind (wpAny_letGo ?_)
 exact by_extend hh S .none _ hS₂ (fun h' tk acc' c' hk hS' hacc=>hR h' tk acc' c' (fun b o hb e=>hk b o hb ((Heap.get?_update_other _ _ (Ne.symm hb)).trans e)) hS' hacc) hn
theorem by_listCall {b:Array UInt8} {t:Tok} {Q:Value->Shared->Prop} (hh:A.handled=none) (hn:b.size<=sizeLine)
  (hQ:∀ h' tk acc' c',(∀ b o,s.heap.get? b=some o->h'.get? b=some o)->h'.get? s.heap.objs.size=some { cls:=.type "list",dict:=none,data:=.seq acc' c',slots:=#[] }->ItemsOf (fun i v=>∃ c u,b[i]?=some c/\v=.int (c.toNat:Int) u) acc' b.size->Q (.ref s.heap.objs.size) { s with heap:=h',toks:=tk }) :
  wpAny (model prog w) A (call (.type "list") [.bytes b t]) Q E s:=by
 refine callType_codes (Q₁:=fun obj s₁=>obj=.ref s.heap.objs.size/\s₁={ s with heap:=s.heap.push { cls:=.type "list",data:=.seq #[] } }) PySem.F.called_list (PySem.F.typeCall_list_1 _) PySem.F.entry_list_init
  (code_list_new _ ⟨rfl,rfl⟩) fun obj s₁ h₁=>?_
 obtain ⟨rfl,rfl⟩:=h₁
 have hS:(s.heap.push { cls:=.type "list",data:=.seq #[] }).get? s.heap.objs.size=some { cls:=.type "list",data:=.seq #[] }:=Heap.get?_push_size _ rfl
 refine ⟨⟨_,hS,rfl⟩,PySem.F.args_list_init_2 _ _,by_init (A:=A.in1) hh _ hS (fun h' tk acc' c' hk hS' hacc=>?_) hn⟩
 exact ⟨rfl,hQ h' tk acc' c' (fun b o e=>hk b o (Nat.ne_of_lt (Heap.lt_size e)) (Heap.get?_push_of_some _ e)) hS' hacc⟩
theorem insertI_perm (x:Int):∀ l:List Int,(insertI x l).Perm (x::l)
 | []=>.refl _
 | y::r=>by
  unfold insertI
  split
  ·exact .refl _
  ·exact ((insertI_perm x r).cons y).trans (.swap x y r)
theorem sortI_perm:∀ l:List Int,(sortI l).Perm l
 | []=>.refl _
 | x::r=>(insertI_perm x (sortI r)).trans ((sortI_perm r).cons x)
theorem insertI_sorted (x:Int):∀ l:List Int,l.Pairwise (·<=·)->(insertI x l).Pairwise (·<=·)
 | [],_=>List.pairwise_singleton _ _
 | y::r,h=>by
  unfold insertI
  have h1:=List.pairwise_cons.mp h
  split
  ·rename_i hxy
   refine List.pairwise_cons.mpr ⟨fun z hz=>?_,h⟩
   rcases List.mem_cons.mp hz with rfl|hz
   ·exact hxy
   ·exact Int.le_trans hxy (h1.1 z hz)
  ·rename_i hxy
   refine List.pairwise_cons.mpr ⟨fun z hz=>?_,insertI_sorted x r h1.2⟩
   rcases List.mem_cons.mp ((insertI_perm x r).mem_iff.mp hz) with rfl|hz
   ·omega
   ·exact h1.1 z hz
theorem sortI_sorted:∀ l:List Int,(sortI l).Pairwise (·<=·)
 | []=>.nil
 | x::r=>insertI_sorted x _ (sortI_sorted r)
theorem sortI_eq {l l':List Int} (p:l'.Perm l) (h:l'.Pairwise (·<=·)):l'=sortI l :=
 List.Perm.eq_of_pairwise (le:=(·<=·)) (fun a b _ _ h1 h2=>Int.le_antisymm h1 h2) h (sortI_sorted l) (p.trans (sortI_perm l).symm)
theorem by_callG {a:Value} {Q:Value->Shared->Prop} (hnew:wpAny (model prog w) A.in1.in1 (Builtin.«bytes.__new__» ⟨[.type "bytes",a],[]⟩) (fun fin s'=>match fin with|.done f=>wants (fun obj s₁=>s₁.TypeIs obj "bytes"/\Q obj s₁) E (.ok f) s'|.again c'=>c'.quiet=true/\codeAny (model prog w) A.in1 c' (wants (fun obj s₁=>s₁.TypeIs obj "bytes"/\Q obj s₁) E) s') (fun e s'=>wants (fun obj s₁=>s₁.TypeIs obj "bytes"/\Q obj s₁) E (.error e) s') s) :
  wpAny (model prog w) A (call (.type "bytes") [a]) Q E s:=by
 refine callType_codes (Q₁:=fun obj s₁=>s₁.TypeIs obj "bytes"/\Q obj s₁) F.bm_called (F.bm_typeCall _) F.entry_object_init ?_ fun obj s₁ h₁=>?_
 ·refine codeAny_of_tree ?_
  show wpAny _ _ (do checkBuiltinCall "bytes.__new__" ⟨[.type "bytes",a],[]⟩;again (.builtin "bytes.__new__" ⟨[.type "bytes",a],[]⟩)) _ _ s
  refine wpAny_bind (wpAny_of_eq (F.bm_newCall _) (wpAny_pure ⟨plainId_quiet F.bm_plain _,codeAny_builtin F.bm_entry ?_⟩))
  rw [Around.under_plainId F.bm_plain _]
  exact hnew
 ·exact ⟨h₁.1,F.args_object_init_2 obj _,object_init_meets F.bm_called.init.lookup F.bm_called.made (by decide) prog w A.in1 _ s₁ ⟨h₁.1,rfl,h₁.2⟩⟩
theorem by_bytes {b:Array UInt8} {t:Tok} {Q:Value->Shared->Prop} (hq:Q (.bytes b t) s):wpAny (model prog w) A (call (.type "bytes") [.bytes b t]) Q E s:=by
 refine by_callG ?_
 unfold Builtin.«bytes.__new__»
 refine wpAny_bind (wpAny_of_eq (a:=true) rfl ?_)
 refine bm_if_false rfl ?_
 refine wpAny_bind (wpAny_of_eq F.bm_sub ?_)
 refine bm_if_false rfl ?_
 refine wpAny_bind (wpAny_of_eq (F.bm_bind _) ?_)
 refine wpAny_bind (wpAny_of_eq (a:=()) rfl ?_)
 refine wpAny_bind (wpAny_of_eq (a:=()) rfl ?_)
 refine bm_if_false rfl ?_
 refine wpAny_bind (wpAny_specialOf (PySem.W.typeIs_bytes s b t) by_look_bytes ?_)
 dsimp only
 refine wpAny_bind (wpAny_rule ?_)
 refine wpAny_bind (wpAny_of_eq (a:=.type "bytes") rfl ?_)
 rw [if_pos (by decide)]
 show wpAny _ _ (if (Value.type "bytes"==Value.type "bytes")=true then _ else _) _ _ _
 refine bm_if_true (by decide) ?_
 first
  | exact wpAny_pure ⟨PySem.W.typeIs_bytes _ _ _,hq⟩
  | exact wpAny_bind (wpAny_pure (wpAny_pure ⟨PySem.W.typeIs_bytes _ _ _,hq⟩))
theorem by_barr {a:Addr} {b:Array UInt8} {Q:Value->Shared->Prop} (ho:s.heap.get? a=some { cls:=.type "bytearray",data:=.bytearray b 0 }) (hz:b.size<=sizeLine) (hq:∀ t k,Q (.bytes b t) { s with toks:=k }):wpAny (model prog w) A (call (.type "bytes") [.ref a]) Q E s:=by
 refine by_callG ?_
 have hT:s.TypeIs (.ref a) "bytearray":=⟨_,ho,rfl⟩
 unfold Builtin.«bytes.__new__»
 refine wpAny_bind (wpAny_of_eq (a:=true) rfl ?_)
 refine bm_if_false rfl ?_
 refine wpAny_bind (wpAny_of_eq F.bm_sub ?_)
 refine bm_if_false rfl ?_
 refine wpAny_bind (wpAny_of_eq (F.bm_bind _) ?_)
 refine wpAny_bind (wpAny_of_eq (a:=()) rfl ?_)
 refine wpAny_bind (wpAny_of_eq (a:=()) rfl ?_)
 refine bm_if_false rfl ?_
 refine wpAny_bind (wpAny_specialOf hT ba_no_bytes ?_)
 refine wpAny_bind (wpAny_bind ?_)
 show wpAny _ _ (load a >>= _) _ _ _
 refine wpAny_bind (wpAny_load ho ?_)
 refine wpAny_pure (wpAny_pure ?_)
 refine bm_if_false rfl ?_
 refine wpAny_bind (wpAny_specialOf hT ba_no_index ?_)
 refine bm_if_true rfl ?_
 first
  | show wpAny _ _ (Builtin.Bytes.buffer? "bytes.__new__" (.ref a) true >>= _) _ _ _
  | (refine wpAny_bind ?_;show wpAny _ _ (Builtin.Bytes.buffer? "bytes.__new__" (.ref a) true >>= _) _ _ _)
 refine wpAny_bind (wp_buffer_ba ho ?_)
 refine wpAny_bind (wpAny_rule ?_)
 refine wpAny_bind (wpAny_mkBytes ?_ hz)
 show wpAny _ _ (if (Value.type "bytes"==Value.type "bytes")=true then _ else _) _ _ _
 refine bm_if_true (by decide) ?_
 first
  | exact wpAny_pure ⟨PySem.W.typeIs_bytes _ _ _,hq _ _⟩
  | exact wpAny_bind (wpAny_pure (wpAny_pure ⟨PySem.W.typeIs_bytes _ _ _,hq _ _⟩))
  | exact wpAny_bind (wpAny_pure (wpAny_pure (wpAny_pure ⟨PySem.W.typeIs_bytes _ _ _,hq _ _⟩)))
end
section
variable {Γ:Cx} {s s' s'':Shared} {R R' R'':Reg} {st st' st'':St} {h h':Heap} {H:AH} {a b:Value} {x y:AV}
theorem After.butFrame {tk:Nat} {m:Str->Option Value} (P:Pre Γ s R st) (K:FxOk Γ.X) (hm:s.heap.Ns Γ.X.env.locals m) (hm':h'.Ns Γ.X.env.locals m) (hk:∀ b o,b≠Γ.X.env.locals->s.heap.get? b=some o->h'.get? b=some o) :
  After Γ s R { s with heap:=h',toks:=tk } R st :=
 have k9:=P.sat.upd_keeps9 (.inr (List.mem_append_left _ K.loc)) hk
 After.frame P K.loc hk (ns_owned hm') ⟨P.fr.len,P.fr.ns.casesOn fun m2 n r=>⟨m,hm',fun i y a e1 e2 e3=>(r i y a e1 e2 e3).elim fun v q=>⟨v,(hm.agree n _).trans q.1,q.2.mono k9⟩⟩,
  fun i y e1 e2=>(P.fr.cel i y e1 e2).casesOn fun c o ov e g d r=>⟨c,o,ov,e,hk _ _ (K.cellNe _ _ e) g,d,fun a q=>(r a q).elim fun v q=>⟨v,q.1,q.2.mono k9⟩⟩⟩
theorem vrels_ints {vs:List Value} {is:List Int} (x:IntsAre vs is):VRels h R vs (is.map .int):=by
 induction x with
 | nil=>exact .nil
 | cons n t _ ih=>exact .cons (.int n t) ih
theorem bytes_ints {b:List UInt8} {us:List Value} (r:VRels h R us (octInts b)):IntsAre us (b.map fun x=>(x.toNat:Int)):=ints_are (by rw [List.map_map];exact r)
theorem byteArr_eq (b:List UInt8):byteArr (b.map fun x=>(x.toNat:Int))=b.toArray:=by
 unfold byteArr
 rw [List.map_map]
 congr 1
 exact (List.map_congr_left fun x _=>by simp).trans (List.map_id b)
theorem sim_len (P:Pre Γ s R st) (r:VRel s.heap R a x):SimAt Γ VRel (call (.builtin "len") [a]) (fun Q _=>primP .len [x] st Q) s R:=by
 cases x with
 | bytes b =>
  obtain ⟨t,rfl,z⟩:=r.bytes_v
  exact .leaf P fun k=>len_bytes (Nat.le_trans (show b.length<=LIM from z) (by decide)) (k _ _ (.int _ _))
 | tup xs =>
  obtain ⟨p,us,rfl,t,z,q⟩:=r.tup_v
  have hz:us.toArray.size<=LIM:=by rw [List.size_toArray,q.len];exact z
  exact .leaf P fun k=>PyProof.Rows.len_tuple (isTuple_of t) (Int.lt_of_le_of_lt (Int.ofNat_le.mpr hz) (by decide)) (by rw [List.size_toArray,q.len];exact k _ _ (.int _ _))
 | ref l =>
  refine .lst fun xs h1=>?_
  obtain ⟨p,us,n,rfl,_,z,g,q⟩:=P.lst r h1
  have hz:us.toArray.size<=LIM:=by rw [List.size_toArray,q.len];exact z
  exact .leaf P fun k=>call_len_list (isList g) (Int.lt_of_le_of_lt (Int.ofNat_le.mpr hz) (by decide)) (by rw [List.size_toArray,q.len];exact k _ _ (.int _ _))
 | _=>exact .no
theorem tup_made {p:Addr} {Q:KV} {tk n:Nat} {us:List Value} {xs:List AV} (P:Pre Γ s R st) (hk:∀ b o,s.heap.get? b=some o->h'.get? b=some o) (g:h'.get? p=some { cls:=.type "tuple",data:=.seq us.toArray n }) (z:xs.length<=LIM) (r:VRels s.heap R us xs) (h:Q (.tup xs) st) :
  Lift Γ VRel s R Q (.ref p) { s with heap:=h',toks:=tk } :=
 ⟨_,_,R,h,After.keepAll P hk,VRel.mkTup ⟨_,n,g,rfl,rfl⟩ z (r.mono (keeps9_h hk))⟩
theorem sim_tupleOf (P:Pre Γ s R st) (r:VRel s.heap R a x):SimAt Γ VRel (call (.type "tuple") [a]) (fun Q _=>primP .tuple [x] st Q) s R:=by
 refine .isRef fun l e=>.lst fun xs h1=>?_
 subst e
 obtain ⟨p,us,n,rfl,_,z,g,q⟩:=P.lst r h1
 exact .rule fun Q E hp=>call_tuple_list (isList g) (fun h1 hk=>tup_made P (fun b o e=>Heap.get?_push_of_some _ (hk b o e)) (Heap.get?_push_size _ rfl) z q hp) (q.line z)
theorem sim_isBytes {b:List UInt8} (P:Pre Γ s R st) (r:VRel s.heap R a (.bytes b)):SimAt Γ VRel (call (.builtin "isinstance") [a,.type "bytes"]) (fun Q _=>Q (.bool true) st) s R:=by
 obtain ⟨t,rfl,_⟩:=r.bytes_v
 exact .rule fun Q E hp=>call_isinstance (isinstance_true (Tx:="bytes") F.isi_meta_bytes F.sub_bytes_bytes) ⟨PySem.W.typeIs_bytes _ _ _,_,_,R,hp,After.toks P,.bool true⟩
theorem sim_bytesOf (hh:Γ.A.handled=none) (P:Pre Γ s R st) (r:VRel s.heap R a x):SimAt Γ VRel (call (.type "bytes") [a]) (fun Q _=>primP .bytes [x] st Q) s R:=by
 cases x with
 | bytes b =>
  obtain ⟨t,rfl,z⟩:=r.bytes_v
  exact .rule fun Q E hp=>by_bytes ⟨_,_,R,hp,After.toks P,.bytes _ _ z⟩
 | ref l =>
  refine .or (.lst fun xs h1=>.ex fun b=>.and fun e=>?_) (.bar fun b h1=>?_)
  ·subst e
   obtain ⟨p,us,n,rfl,_,z,g,q⟩:=P.lst r h1
   refine .rule fun Q E hp=>call_bytes_ints (isList g) (bytes_ints q) (fun n hn=>?_) (by rw [q.len];exact Nat.le_trans z LIM_line) hh fun h' t k hk=>?_
   ·obtain ⟨c,_,rfl⟩:=List.mem_map.mp hn
    exact ⟨Int.natCast_nonneg _,Int.ofNat_lt.mpr c.toNat_lt⟩
   ·rw [byteArr_eq]
    exact ⟨_,_,R,hp,After.keepAll P hk,.bytes _ _ (by unfold octInts at z;rw [List.length_map] at z;exact z)⟩
  ·obtain ⟨p,rfl,_,z,g⟩:=P.bar r h1
   exact .rule fun Q E hp=>by_barr g (by rw [List.size_toArray];exact Nat.le_trans z LIM_line) fun t k=>⟨_,_,R,hp,After.toks P,.bytes _ _ z⟩
 | _=>exact .no
theorem sim_sum (hh:Γ.A.handled=none) (K:FxOk Γ.X) (P:Pre Γ s R st) (r:VRel s.heap R a x):SimAt Γ VRel (call (.builtin "sum") [a]) (fun Q _=>primP .sum [x] st Q) s R:=by
 refine .isBytes fun b e=>?_
 subst e
 obtain ⟨t,rfl,z⟩:=r.bytes_v
 obtain ⟨m,hm,_⟩:=P.fr.ns
 refine .rule fun Q E hp=>KBmo.sum_K (fr_of_ns hm) (news_allBut s.heap Γ.X.env.locals) hh rfl (Nat.le_trans (by unfold KBw.bInts;rw [List.length_map];exact z) (by decide)) fun h' t' k F' N' _ _=>?_
 exact ⟨_,_,R,hp,After.butFrame P K hm F'.ns (keep_of_news N' fun p hp=>hp),.int _ _⟩
theorem min_if (i j:Int):min i j=if j < i then j else i:=by split <;> omega
theorem max_if (i j:Int):max i j=if j>i then j else i:=by split <;> omega
theorem sim_mm {f:Int->Int->Int} {v:Value} (ra:VRel s.heap R a x) (rb:VRel s.heap R b y)
  (h:∀ i j t u,a=.int i t->b=.int j u->SimAt Γ VRel (call v [.int i t,.int j u]) (fun Q _=>Q (.int (f i j)) st) s R) :
  SimAt Γ VRel (call v [a,b]) (fun Q _=>x.isInt fun i=>y.isInt fun j=>Q (.int (f i j)) st) s R:=by
 refine .isInt fun i e=>.isInt fun j f=>?_
 subst e f
 obtain ⟨t,rfl⟩:=ra.int_v
 obtain ⟨u,rfl⟩:=rb.int_v
 exact h i j t u rfl rfl
theorem lt_objs {D:Addr} {h:Heap} (hD:h.objs.size<=D):h.get? D=none:=Heap.get?_none_of_le hD
theorem sim_sorted (P:Pre Γ s R st) (r:VRel s.heap R a x):SimAt Γ VRel (call (.builtin "sorted") [a]) (fun Q _=>primP .sorted [x] st Q) s R:=by
 refine .isRef fun l e=>.lst fun xs h1=>.ex fun is=>.and fun e2=>.and fun hz=>?_
 subst e e2
 obtain ⟨p,us,n,rfl,_,z,g,q⟩:=P.lst r h1
 refine .rule fun Q E hp=>sorted_ints (isList g) (ints_are q) (by rw [q.len,List.length_map];exact hz) fun out ns' a1 a2 a3=>?_
 have hks:∀ b o,s.heap.get? b=some o->(sortedAll s.heap us out).get? b=some o:=fun b o e=>sortedAll_old e
 obtain ⟨c,he⟩:=sortedAll_at s.heap us out
 have hD:s.heap.get? (s.heap.objs.size+1)=none:=Heap.get?_none_of_le (Nat.le_succ _)
 have hv:VRels s.heap R out.toList ((sortI is).map .int):=sortI_eq a2 a3▸vrels_ints a1
 have hw:((sortI is).map AV.int).length<=LIM:=by
  rw [List.length_map,(sortI_perm _).length_eq]
  exact Nat.le_trans (Nat.le_of_lt hz) (by decide)
 exact ⟨_,_,_,hp,After.alloc (tk:=s.toks) P hks hD hD ⟨out.toList,c,rfl,hw,he,hv.mono (keeps9_app hks)⟩,newRefV P⟩
theorem fits_of {x:Int} (h1:0<=x) (h2:x<=4194304):Builtin.Range.rangeFitsLong x=true:=by
 unfold Builtin.Range.rangeFitsLong
 simp only [Bool.and_eq_true,decide_eq_true_eq];omega
theorem rng_len {x y z:Nat} (hz:0 < z):Builtin.Range.rangeSize x y z=((y - x + (z - 1)) / z:Nat):=by
 unfold Builtin.Range.rangeSize
 rw [if_pos (by omega)]
 by_cases h:x < y
 ·rw [if_pos (by omega),show y - x + (z - 1)=(y - x - 1) + z by omega,Nat.add_div_right _ hz]
  rw [show ((y:Int) - x - 1)=((y - x - 1:Nat):Int) by omega]
  simp
 ·rw [if_neg (by omega),Nat.div_eq_of_lt (by omega)];rfl
theorem rngOk {x y z:Nat} (h:x<=LIM/\y<=LIM/\0 < z/\z<=LIM):RngOk ((y - x + (z - 1)) / z) (fun i=>x + z * i) x y z:=by
 obtain ⟨h1,h2,hz,h3⟩:=h
 have h1:x<=1048576:=h1
 have h2:y<=1048576:=h2
 have h3:z<=1048576:=h3
 have hn:(y - x + (z - 1)) / z<=y:=by
  refine Nat.le_of_lt_succ ((Nat.div_lt_iff_lt_mul hz).mpr ?_)
  rw [Nat.succ_mul]
  have:=Nat.le_mul_of_pos_right y hz
  omega
 refine ⟨rng_len hz,?_,fun i=>by simp [Int.mul_comm],Nat.le_trans hn h2⟩
 unfold Builtin.Range.small
 rw [rng_len hz,if_pos (by omega)]
 generalize (y - x + (z - 1)) / z=k at hn ⊢
 rw [fits_of (by omega) (by omega),fits_of (x:=(y:Int)) (by omega) (by omega),fits_of (x:=(z:Int)) (by omega) (by omega),fits_of (x:=(k:Int)) (by omega) (by omega),fits_of (x:=(y:Int) + _) (by omega) (by omega),Bool.or_true]
 rfl
theorem rngOk2 {x y:Nat} (h:x<=LIM/\y<=LIM):RngOk (y - x) (fun i=>x + i) x y 1:=by
 have k:=rngOk (x:=x) (z:=1) ⟨h.1,h.2,by decide,by decide⟩
 rw [Nat.sub_self,Nat.add_zero,Nat.div_one] at k
 exact ⟨k.sz,k.sm,fun i=>by omega,k.le⟩
theorem rngOk1 {y:Nat} (h:y<=LIM):RngOk y (fun i=>i) 0 y 1 :=
 have k:=rngOk2 (x:=0) ⟨Nat.zero_le _,h⟩
 ⟨k.sz,k.sm,fun i=>by omega,k.le⟩
theorem itemsOf_ints {f:Nat->Int} {acc:Array Value} {n:Nat} (x:ItemsOf (fun i v=>∃ t,v=.int (f i) t) acc n):VRels h R acc.toList ((List.range n).map fun i=>AV.int (f i)):=by
 refine ⟨by simp [x.1],fun i v a e1 e2=>?_⟩
 rw [Array.getElem?_toList] at e1
 obtain ⟨t,rfl⟩:=x.2 i v e1
 rw [List.getElem?_map] at e2
 obtain ⟨j,e3,rfl⟩:=Option.map_eq_some_iff.mp e2
 have hi:i < n:=by rw [<-x.1];exact (Array.getElem?_eq_some_iff.mp e1).1
 rw [List.getElem?_range hi] at e3
 cases e3
 exact .int _ _
theorem itemsOf_bytes {b:List UInt8} {acc:Array Value} (x:ItemsOf (fun i v=>∃ c u,b.toArray[i]?=some c/\v=.int (c.toNat:Int) u) acc b.toArray.size):VRels h R acc.toList (octInts b):=by
 unfold octInts
 refine ⟨by simp [x.1],fun i v a e1 e2=>?_⟩
 rw [Array.getElem?_toList] at e1
 obtain ⟨c,u,hc,rfl⟩:=x.2 i v e1
 rw [List.getElem?_map] at e2
 obtain ⟨j,e3,rfl⟩:=Option.map_eq_some_iff.mp e2
 rw [List.getElem?_toArray] at hc
 cases hc.symm.trans e3
 exact .int _ _
theorem list_laid {Q:KV} {tk c:Nat} {acc:Array Value} {xs:List AV} (P:Pre Γ s R st) (hk:∀ b o,s.heap.get? b=some o->h'.get? b=some o) (g:h'.get? s.heap.objs.size=some (listOf acc c)) (r:VRels s.heap R acc.toList xs) (z:xs.length<=LIM) (h:Q (.ref st.H.length) ⟨st.fr,st.H++[.list xs]⟩) :
  Lift Γ VRel s R Q (.ref s.heap.objs.size) { s with heap:=h',toks:=tk } :=
 ⟨_,_,_,h,After.alloc P hk (get_size_none _) (get_size_none _) ⟨acc.toList,c,rfl,z,g,r.mono (keeps9_app hk)⟩,newRefV P⟩
theorem sim_list (hh:Γ.A.handled=none) (P:Pre Γ s R st) (r:VRel s.heap R a x):SimAt Γ VRel (call (.type "list") [a]) (fun Q _=>primP .list [x] st Q) s R:=by
 cases x with
 | bytes b =>
  obtain ⟨t,rfl,z⟩:=r.bytes_v
  exact .rule fun Q E hp=>by_listCall hh (by rw [List.size_toArray];exact Nat.le_trans z LIM_line) fun h' tk acc c hk hS hacc=>list_laid P hk hS (itemsOf_bytes hacc) (by unfold octInts;rw [List.length_map];exact z) hp
 | rng n f =>
  obtain ⟨a,x,y,z,t,u,w,rfl,k,r2⟩:=r.rng_v
  refine .rule fun Q E hp=>call_list_range hh r2 k.sm k.sz (Nat.le_trans k.le (by decide)) fun h' tk acc c hk hS hacc=>list_laid P hk hS ?_ (by unfold rngItems;rw [List.length_map,List.length_range];exact k.le) hp
  have:=itemsOf_ints (h:=s.heap) (R:=R) (f:=fun i=>x + (i:Int) * z) hacc
  unfold rngItems
  rw [show (fun i:Nat=>AV.int (f i:Int))=fun i:Nat=>AV.int (x + (i:Int) * z) from funext fun i=>by rw [k.at']]
  exact this
 | _=>exact .no
noncomputable def primVal:Prim->Value
 | .len=>.builtin "len"|.bytes=>.type "bytes"|.bytearray=>.type "bytearray"|.tuple=>.type "tuple"|.sum=>.builtin "sum"|.min=>.builtin "min"|.max=>.builtin "max"
 | .range=>.type "range"|.sorted=>.builtin "sorted"|.list=>.type "list"
theorem sim_range {vs:List Value} {as:List AV} (P:Pre Γ s R st) (r:VRels s.heap R vs as):SimAt Γ VRel (call (.type "range") vs) (fun Q _=>primP .range as st Q) s R:=by
 cases as with
 | nil=>exact .no
 | cons x as =>
  obtain ⟨a,us,rfl,q1,r1⟩:=r.inv
  cases as with
  | nil =>
   obtain rfl:=r1.inv0
   refine .nt fun n e=>.and fun z=>?_
   subst e
   obtain ⟨t,rfl⟩:=q1.int_v
   exact .rule fun Q E hq=>call_range_1 ⟨_,_,R,hq,After.push P,.rng (rngOk1 z) (Heap.get?_push_size _ rfl)⟩
  | cons y as =>
   obtain ⟨b,us,rfl,q2,r2⟩:=r1.inv
   cases as with
   | nil =>
    obtain rfl:=r2.inv0
    refine .nt fun n e=>.nt fun m f=>.and fun z=>?_
    subst e f
    obtain ⟨t,rfl⟩:=q1.int_v
    obtain ⟨u,rfl⟩:=q2.int_v
    exact .rule fun Q E hq=>call_range_2 ⟨_,_,R,hq,After.push P,.rng (rngOk2 z) (Heap.get?_push_size _ rfl)⟩
   | cons y as =>
    obtain ⟨c,us,rfl,q3,r3⟩:=r2.inv
    refine .and fun e=>?_
    subst e
    obtain rfl:=r3.inv0
    refine .nt fun n e=>.nt fun m f=>.nt fun k g=>.and fun z=>?_
    subst e f g
    obtain ⟨t,rfl⟩:=q1.int_v
    obtain ⟨u,rfl⟩:=q2.int_v
    obtain ⟨v,rfl⟩:=q3.int_v
    have z3:k<=1048576:=z.2.2.2
    have z4:0 < k:=z.2.2.1
    exact .rule fun Q E hq=>call_range_3 (by omega) ⟨_,_,R,hq,After.push P,.rng (rngOk z) (Heap.get?_push_size _ rfl)⟩ (.inl (PyProof.noPylong_small (by omega)))
theorem sim_prim {p:Prim} {vs:List Value} {as:List AV} (hh:Γ.A.handled=none) (K:FxOk Γ.X) (P:Pre Γ s R st) (r:VRels s.heap R vs as) :
  SimAt Γ VRel (call (primVal p) vs) (fun Q _=>primP p as st Q) s R:=by
 have one:∀ {f:AV->PT AV} {v:Value},(∀ a x,VRel s.heap R a x->SimAt Γ VRel (call v [a]) (f x) s R)->SimAt Γ VRel (call v vs) (fun Q E=>oneP as fun a=>f a Q E) s R:=fun {f v} h=>.one fun x e=>by
  subst e
  obtain ⟨a,rfl,q⟩:=r.inv1
  exact h a x q
 have two:∀ {f:AV->AV->PT AV} {v:Value},(∀ a b x y,VRel s.heap R a x->VRel s.heap R b y->SimAt Γ VRel (call v [a,b]) (f x y) s R)->SimAt Γ VRel (call v vs) (fun Q E=>twoP as fun a b=>f a b Q E) s R:=fun {f v} h=>.two fun x y e=>by
  subst e
  obtain ⟨a,us,rfl,q,r'⟩:=r.inv
  obtain ⟨b,rfl,q'⟩:=r'.inv1
  exact h a b x y q q'
 cases p with
 | len=>exact one fun a x q=>sim_len P q
 | bytes=>exact one fun a x q=>sim_bytesOf hh P q
 | bytearray =>
  refine .and fun e=>?_
  subst e
  obtain rfl:=r.inv0
  exact sim_bytearray P
 | tuple=>exact one fun a x q=>sim_tupleOf P q
 | sum=>exact one fun a x q=>sim_sum hh K P q
 | min=>exact two fun a b x y q q'=>sim_mm (f:=min) q q' fun i j t u _ _=>.rule fun Q E hq=>min_two_ints hh fun h' tk hk=>⟨_,_,R,hq,After.keepAll P hk,by rw [min_if];split <;> exact .int _ _⟩
 | max=>exact two fun a b x y q q'=>sim_mm (f:=max) q q' fun i j t u _ _=>.rule fun Q E hq=>max_two_ints hh fun h' tk hk=>⟨_,_,R,hq,After.keepAll P hk,by rw [max_if];split <;> exact .int _ _⟩
 | range=>exact sim_range P r
 | sorted=>exact one fun a x q=>sim_sorted P q
 | list=>exact one fun a x q=>sim_list hh P q
end
end Ab
end
section
namespace Ab
open PySem PySem.W PySem.Calls PyProof.Rows PyProof.Rows.TI
section
variable {Γ:Cx} {s s' s'':Shared} {R R' R'':Reg} {st st' st'':St} {h h':Heap} {H:AH} {a b:Value} {x y:AV} {C:Call}
theorem sim_loc {i:Nat} {n:String} (P:Pre Γ s R st) (K:FxOk Γ.X) (hi:Γ.X.names[i]?=some n) (hl:Γ.X.env.scope.names.lookup (Str.ofString n)=some .local) (hv:st.fr[i]?=some (some x)) :
  SimAt Γ VRel (loadName Γ.X.env (Str.ofString n)) (fun Q _=>Q x st) s R:=by
 obtain ⟨m,hm,hf⟩:=P.fr.ns
 obtain ⟨v,e1,e2⟩:=hf i n x hi hv hl
 exact .rule fun Q E hp=>wpAny_loadName_local K.kind hl hm e1 ⟨x,st,R,hp,.refl P,e2⟩
theorem sim_cel {i:Nat} {n:String} (P:Pre Γ s R st) (K:FxOk Γ.X) (hi:Γ.X.names[i]?=some n) (hl:isCellK (Γ.X.env.scope.names.lookup (Str.ofString n))) (hv:st.fr[i]?=some (some x)) (hn:(Str.ofString n==("__classdict__":Str))=false) :
  SimAt Γ VRel (loadName Γ.X.env (Str.ofString n)) (fun Q _=>Q x st) s R:=by
 obtain ⟨c,o,ov,e,g,d,r⟩:=P.fr.cel i n hi hl
 obtain ⟨v,rfl,e8⟩:=r x hv
 refine .rule fun Q E hp=>?_
 have fin:Lift Γ VRel s R Q v s:=⟨x,st,R,hp,.refl P,e8⟩
 exact hl.elim (fun hl=>wpAny_loadName_cell K.kind hl e ⟨o,g,d⟩ fin) fun hl=>wpAny_loadName_free K.kind hl e ⟨o,g,d⟩ fin hn
theorem get_fr:∀ {i:Nat} {fr:List (Option AV)} {k:AV->Prop},getFr i fr k->∃ v,fr[i]?=some (some v)/\k v:=by
 intro i
 induction i with
 | zero =>
  intro fr k h
  cases fr with
  | nil=>exact h.elim
  | cons o r =>
   cases o with
   | none=>exact h.elim
   | some v=>exact ⟨v,rfl,h⟩
 | succ i ih =>
  intro fr k h
  cases fr with
  | nil=>exact h.elim
  | cons o r=>exact ih (fr:=r) h
theorem set_fr {v:AV}:∀ {i:Nat} {fr:List (Option AV)} {k:List (Option AV)->Prop},setFr v i fr k->i < fr.length/\k (fr.set i (some v)):=by
 intro i
 induction i with
 | zero =>
  intro fr k h
  cases fr with
  | nil=>exact h.elim
  | cons o r=>exact ⟨Nat.succ_pos _,h⟩
 | succ i ih =>
  intro fr k h
  cases fr with
  | nil=>exact h.elim
  | cons o r=>have q:=ih (fr:=r) (k:=fun r=>k (o::r)) h;exact ⟨Nat.succ_lt_succ q.1,q.2⟩
theorem SimAt.getFr {α β:Type} {rel:Rl β α} {t:Sem β} {i:Nat} {fr:List (Option AV)} {k:AV->PT α} (h:∀ v,fr[i]?=some (some v)->SimAt Γ rel t (k v) s R):SimAt Γ rel t (fun Q E=>getFr i fr fun v=>k v Q E) s R:=fun Q E hp =>
 (get_fr hp).elim fun v q=>h v q.1 Q E q.2
theorem sim_Name {n:Str} {pos:Pos} {p:PT AV} (hd:(n==("__debug__":Str))=false) (h:SimAt Γ VRel (loadName Γ.X.env n) p s R):SimAt Γ VRel (eval (.Name n pos) Γ.X.env) p s R:=by
 rw [eval_Name Γ.X.env n pos hd]
 exact .standAt h
theorem sim_global {n:Str} {v:Value} (P:Pre Γ s R st) (K:FxOk Γ.X) (hg:Γ.G.B.Ns mainGlobals Γ.G.mg) (hx:Γ.X.env.scope.names.lookup n=some .globalImplicit) (hv:Γ.G.mg n=some v) (r:VRel s.heap R v x) :
  SimAt Γ VRel (loadName Γ.X.env n) (fun Q _=>Q x st) s R:=by
 refine .rule fun Q E hp=>?_
 have e:loadName Γ.X.env n=loadGlobal Γ.X.env n:=by
  unfold loadName
  simp only [Env.blockKind,K.kind,show Γ.X.env.kindOf n=some .globalImplicit from hx,ScopeKind.isAnnotationScope,Bool.false_and,Bool.false_eq_true,if_false]
 rw [e]
 exact loadGlobal_global (K.globals▸hg.keeps P.sat.keep) hv ⟨x,st,R,hp,.refl P,r⟩
theorem wpP_globalV {n:Str} {v:Value} {Q:Value->Shared->Prop} {E:Value->Shared->Prop} {pos:Pos} (P:Pre Γ s R st) (K:FxOk Γ.X) (hg:Γ.G.B.Ns mainGlobals Γ.G.mg) (hx:Γ.X.env.scope.names.lookup n=some .globalImplicit) (hd:(n==("__debug__":Str))=false)
  (hv:Γ.G.mg n=some v) (h:Q v s):wpP Γ.M Γ.A (eval (.Name n pos) Γ.X.env) Q E s :=
 wpP_of (Name_function_global K.kind hx (loadGlobal_global (K.globals▸hg.keeps P.sat.keep) hv h) hd)
theorem wpP_builtinV {n:Str} {v:Value} {Q:Value->Shared->Prop} {E:Value->Shared->Prop} {pos:Pos} (P:Pre Γ s R st) (K:FxOk Γ.X) (hg:Γ.G.B.Ns mainGlobals Γ.G.mg) (hb:Γ.G.B.Ns builtinsNs Γ.G.mb) (hx:Γ.X.env.scope.names.lookup n=some .globalImplicit) (hd:(n==("__debug__":Str))=false)
  (hn:Γ.G.mg n=none) (hv:Γ.G.mb n=some v) (h:Q v s):wpP Γ.M Γ.A (eval (.Name n pos) Γ.X.env) Q E s :=
 wpP_of (Name_function_global K.kind hx (loadGlobal_builtin (K.globals▸hg.keeps P.sat.keep) hn (K.builtins▸hb.keeps P.sat.keep) hv h) hd)
def BoolRel:Rl Bool Bool:=fun _ _ b a=>b=a
theorem sim_truthy (P:Pre Γ s R st) (r:VRel s.heap R a x):SimAt Γ BoolRel (truthy a) (fun Q _=>x.isBool fun b=>Q b st) s R:=.isBool fun i e=>by
 subst e
 obtain rfl:=r.bool_v
 exact .leaf P fun k=>wpAny_pure (k _ _ rfl)
theorem sim_not (P:Pre Γ s R st) (r:VRel s.heap R a x):SimAt Γ VRel (unaryOp .Not a) (fun Q _=>x.isBool fun b=>Q (.bool (!b)) st) s R:=.isBool fun i e=>by
 subst e
 obtain rfl:=r.bool_v
 exact .leaf P fun k=>not_value (wpAny_pure (k _ _ (.bool _)))
theorem sim_two {l r:Expr} {p:PT AV} {q:St->PT AV} {f:AV->AV->St->PT AV} {t:Value->Value->Sem Value} (hl:SimAt Γ VRel (eval l Γ.X.env) p s R)
  (hr:∀ s1 st1 R1,Pre Γ s1 R1 st1->SimAt Γ VRel (eval r Γ.X.env) (q st1) s1 R1) (ht:∀ s R st a b x y,Pre Γ s R st->VRel s.heap R a x->VRel s.heap R b y->SimAt Γ VRel (t a b) (f x y st) s R) :
  SimAt Γ VRel (eval l Γ.X.env >>= fun a=>PySem.holding [a] (eval r Γ.X.env) >>= fun b=>t a b) (fun Q E=>p (fun a st=>q st (fun b st=>f a b st Q E) E) E) s R :=
 SimAt.bind (g:=fun a st Q E=>q st (fun b st=>f a b st Q E) E) hl fun v1 s1 a st1 R1 af1 r1=>SimAt.bind (g:=fun b st=>f a b st) (hr s1 st1 R1 af1.pre).holding fun v2 s2 b st2 R2 af2 r2=>ht _ _ _ _ _ _ _ af2.pre (r1.mono (af2.keeps9 af1.pre)) r2
theorem sim_BinOp {l r:Expr} {el er:AE} {op:Operator} {pos:Pos} {p:Nat} (hl:SimAt Γ VRel (eval l Γ.X.env) (vE T C el st) s R)
  (hr:∀ s1 st1 R1,Pre Γ s1 R1 st1->SimAt Γ VRel (eval r Γ.X.env) (vE T C er st1) s1 R1):SimAt Γ VRel (eval (.BinOp l op r pos) Γ.X.env) (vE T C (.bin op el er p) st) s R:=by
 rw [arm_eval_BinOp]
 exact sim_two (f:=fun a b st Q _=>binP op a b st Q) hl hr fun s R st a b x y P ra rb=>.standAt (.operate (sim_bin P ra rb))
theorem sim_Not {e:Expr} {ee:AE} {pos:Pos} {p:Nat} (h:SimAt Γ VRel (eval e Γ.X.env) (vE T C ee st) s R):SimAt Γ VRel (eval (.UnaryOp .Not e pos) Γ.X.env) (vE T C (.not ee p) st) s R:=by
 rw [arm_eval_UnaryOp]
 refine SimAt.bind (p:=vE T C ee st) (g:=fun a st (Q:KV) _=>a.isBool fun b=>Q (AV.bool (!b)) st) h fun v s1 a st1 R1 af1 r1=>?_
 exact .standAt (.holding (sim_not af1.pre r1))
theorem sim_Compare {l r:Expr} {el er:AE} {op:CmpOp} {pos:Pos} {p:Nat} (hu:Γ.A.units + 8 < cLine) (hm:behindInMarks op r=false) (hl:SimAt Γ VRel (eval l Γ.X.env) (vE T C el st) s R)
  (hr:∀ s1 st1 R1,Pre Γ s1 R1 st1->SimAt Γ VRel (eval r Γ.X.env) (vE T C er st1) s1 R1):SimAt Γ VRel (eval (.Compare l [op] [r] pos) Γ.X.env) (vE T C (.cmp op el er p) st) s R:=by
 rw [eval_Compare1,markedBehindIn_of_false hm]
 exact sim_two (f:=fun a b st Q _=>cmpP op a b st.H fun r=>Q (.bool r) st) hl hr fun s R st a b x y P ra rb=>.standAt (.operate (sim_cmp P hu ra rb))
theorem sim_CompareT {l r:Expr} {el er:AE} {op:CmpOp} {pos:Pos} {p:Nat} (hu:Γ.A.units + 8 < cLine) (hm:behindInMarks op r=false) (hl:SimAt Γ VRel (eval l Γ.X.env) (vE T C el st) s R)
  (hr:∀ s1 st1 R1,Pre Γ s1 R1 st1->SimAt Γ VRel (eval r Γ.X.env) (vE T C er st1) s1 R1) :
  SimAt Γ BoolRel (isTrue (.Compare l [op] [r] pos) Γ.X.env (eval (.Compare l [op] [r] pos) Γ.X.env)) (fun Q E=>vE T C (.cmp op el er p) st (fun v st=>v.isBool fun b=>Q b st) E) s R:=by
 rw [isTrue_Compare1,markedBehindIn_of_false hm]
 refine SimAt.bind (p:=vE T C el st) (g:=fun a st Q E=>vE T C er st (fun b st=>cmpP op a b st.H fun r=>Q r st) E) hl fun v1 s1 a st1 R1 af1 r1=>?_
 refine SimAt.bind (g:=fun b st Q _=>cmpP op a b st.H fun r=>Q r st) (hr s1 st1 R1 af1.pre).holding fun v2 s2 b st2 R2 af2 r2=>.standAt ?_
 refine SimAt.bind (p:=fun Q _=>cmpP op a b st2.H fun r=>Q (.bool r) st2) (g:=fun v st Q _=>v.isBool fun b=>Q b st) (.operate (sim_cmp af2.pre hu (r1.mono (af2.keeps9 af1.pre)) r2)) fun v3 s3 c st3 R3 af3 r3=>.holding (sim_truthy af3.pre r3)
end
end Ab
end
section
namespace Ab
open PySem PySem.W PySem.Calls PyProof.Rows PyProof.Rows.TI
section
variable {Γ:Cx} {s s' s'':Shared} {R R' R'':Reg} {st st' st'':St} {h h':Heap} {H:AH} {a b:Value} {x y:AV} {C:Call}
theorem subscripted_false (slice:Expr) (o i:Value):∃ vs,subscripted slice false o i=operate vs (getItem o i):=by
 unfold subscripted
 split
 ·exact ⟨_,rfl⟩
 ·rename_i q;cases q
 ·exact ⟨_,rfl⟩
inductive HasItems (s:Shared) (o:Value):Prop
 | mk (T id:String) (t:s.TypeIs o T) (l:typeLookup (.type T) "__getitem__"=pure (some (.builtin id)))
theorem sim_tail {value slice:Expr} {o i:Value} {p:PT AV} (hi:HasItems s o) (h:SimAt Γ VRel (getItem o i) p s R):SimAt Γ VRel (subscriptTail value slice o i) p s R:=fun Q E hp=>by
 obtain ⟨T,id,hT,hl⟩:=hi
 unfold subscriptTail
 obtain ⟨vs,e⟩:=subscripted_false slice o i
 refine wpP_bind (wpP_of ?_)
 rw [getitemInPython_of_ne hT.not_modules]
 refine wpAny_bind (wpAny_specialOf hT hl ?_)
 have fin:=SimAt.skipPure (t:=PySem.operate vs (getItem o i)) (k:=fun r=>letTemporaryGo value o r) (fun v s h=>wpAny_letTemporaryGo h) h.operate Q E hp
 rw [<-e] at fin
 first
  | exact wpAny_pure fin
  | exact wpAny_bind (wpAny_pure fin)
theorem seqIndex_nat {n k:Nat} (h:n < k):seqIndex? (n:Int) k=some n:=by
 unfold seqIndex?
 simp only [if_neg (Int.not_lt.mpr (Int.natCast_nonneg n))]
 rw [if_pos (by simp only [Bool.and_eq_true,decide_eq_true_eq];omega)]
 rfl
theorem lim63 {n:Nat} (h:n < LIM):(n:Int) < 2 ^ 63:=Int.lt_trans (Int.ofNat_lt.mpr h) (by decide)
theorem at_lt {α:Type} {xs:List α} {n:Nat} {x:α} (e:xs[n]?=some x) (z:xs.length<=LIM):n < LIM:=Nat.lt_of_lt_of_le (List.getElem?_eq_some_iff.mp e).1 z
theorem hasItems (P:Pre Γ s R st) (ra:VRel s.heap R a x) {k:AV->Prop} (hp:subP x y st.H k):HasItems s a:=by
 obtain ⟨n,_,hp⟩:=Nt.elim hp
 cases x with
 | bytes b=>obtain ⟨t,rfl,_⟩:=ra.bytes_v;exact ⟨"bytes",_,typeIs_bytes _ _ _,FB.slot_bytes_getitem.lookup⟩
 | tup xs=>obtain ⟨p,us,rfl,t,_,_⟩:=ra.tup_v;exact t.elim fun o q=>q.elim fun n q=>⟨"tuple",_,⟨o,q.1,q.2.1⟩,F.slot_tuple_getitem.lookup⟩
 | ref l =>
  obtain ⟨xs,h1,_⟩:=hp
  obtain ⟨p,us,n,rfl,_,_,g,_⟩:=P.lst ra h1
  exact ⟨"list",_,(isList g).typeIs,slot_list_getitem.lookup⟩
 | _=>exact hp.elim
theorem sim_getItem (P:Pre Γ s R st) (ra:VRel s.heap R a x) (rb:VRel s.heap R b y):SimAt Γ VRel (getItem a b) (fun Q _=>subP x y st.H fun r=>Q r st) s R:=by
 refine .nt fun n e=>?_
 subst e
 obtain ⟨u,rfl⟩:=rb.int_v
 cases x with
 | bytes bs =>
  refine .at fun c h1=>?_
  obtain ⟨t,rfl,z⟩:=ra.bytes_v
  refine .leaf P fun k=>getItem_bytes (Nat.le_trans (show bs.toArray.size<=LIM from z) (by decide)) (Int.natCast_nonneg n) (Int.ofNat_lt.mpr (List.getElem?_eq_some_iff.mp h1).1) ?_
  rw [Int.toNat_natCast,List.getD_eq_getElem?_getD,h1]
  exact k _ _ (.int _ _)
 | tup xs =>
  refine .at fun c h1=>?_
  obtain ⟨p,us,rfl,t,z,r⟩:=ra.tup_v
  obtain ⟨v,e1,rv⟩:=r.get h1
  exact .leaf P fun k=>PyProof.Rows.getItem_tuple (x:=v) (isTuple_of t) (Int.le_trans (by decide) (Int.natCast_nonneg n)) (lim63 (at_lt h1 z)) (seqIndex_nat (by rw [List.size_toArray];exact (List.getElem?_eq_some_iff.mp e1).1)) (by rw [List.getElem?_toArray];exact e1) (k _ s.toks rv)
 | ref l =>
  refine .lst fun xs h0=>.at fun c h1=>?_
  obtain ⟨p,us,m,rfl,_,z,g,r⟩:=P.lst ra h0
  obtain ⟨v,e1,rv⟩:=r.get h1
  exact .leaf P fun k=>wpAny_getItem_list (x:=v) (isList g) (Int.natCast_nonneg n) (lim63 (at_lt h1 z)) (by rw [List.getElem?_toArray];exact e1) (k _ s.toks rv)
 | _=>exact .no
theorem sim_Subscript {o i:Expr} {eo ei:AE} {p q:Nat} {L:Nat} {N:List String} (ho:o=toE L eo N) (hl:SimAt Γ VRel (eval o Γ.X.env) (vE T C eo st) s R)
  (hr:∀ s1 st1 R1,Pre Γ s1 R1 st1->SimAt Γ VRel (eval i Γ.X.env) (vE T C ei st1) s1 R1):SimAt Γ VRel (eval (.Subscript o i (dp L p)) Γ.X.env) (vE T C (.sub eo ei p) st) s R:=by
 rw [eval_Subscript]
 exact sim_two (f:=fun a b st Q _=>subP a b st.H fun r=>Q r st) hl hr fun s R st a b x y P ra rb=>.standAt fun Q E hp=>sim_tail (value:=o) (slice:=i) (hasItems P ra hp) (sim_getItem P ra rb) Q E hp
inductive BndV (v:Value) (d n:Nat):Prop
 | no (e:IsPart v none) (g:n=d)
 | at (m:Nat) (e:IsPart v (some (m:Int))) (g:n=m) (z:m < 1152921504606846976)
theorem bnd_v {v:Value} {d:Nat} {k:Nat->Prop} (r:VRel h R v x) (hp:bndP x d k):∃ n,BndV v d n/\k n:=by
 cases x with
 | none =>
  obtain rfl:=r.none_v
  exact ⟨d,.no .none rfl,hp⟩
 | int i =>
  obtain ⟨n,e,z,hk⟩:=Nt.elim (a:=AV.int i) (k:=fun n=>n < 1152921504606846976/\k n) hp
  cases e
  obtain ⟨t,rfl⟩:=r.int_v
  exact ⟨n,.at n (.int _ _) rfl z,hk⟩
 | _=>exact hp.elim
theorem cut_eq {α:Type} (xs:List α) (x y:Nat):(xs.drop (min x xs.length)).take (min y xs.length - min x xs.length)=cutL xs x y:=by
 unfold cutL
 rw [<-List.drop_take]
 by_cases hy:y<=xs.length
 ·rw [Nat.min_eq_left hy]
  by_cases hx:x<=xs.length
  ·rw [Nat.min_eq_left hx]
  ·rw [Nat.min_eq_right (Nat.le_of_lt (Nat.not_le.mp hx)),List.drop_of_length_le,List.drop_of_length_le] <;> rw [List.length_take] <;> omega
 ·rw [Nat.min_eq_right (Nat.le_of_lt (Nat.not_le.mp hy)),List.take_of_length_le (Nat.le_refl _),List.take_of_length_le (Nat.le_of_lt (Nat.not_le.mp hy))]
  by_cases hx:x<=xs.length
  ·rw [Nat.min_eq_left hx]
  ·rw [Nat.min_eq_right (Nat.le_of_lt (Nat.not_le.mp hx)),List.drop_of_length_le (Nat.le_refl _),List.drop_of_length_le (Nat.le_of_lt (Nat.not_le.mp hx))]
theorem cut_len {α:Type} (xs:List α) (x y:Nat):(cutL xs x y).length<=xs.length:=by
 unfold cutL
 rw [List.length_drop,List.length_take];omega
inductive PartsV (l u:Value) (n x y:Nat):Prop
 | mk (lo hi:Option Int) (pl:IsPart l lo) (pu:IsPart u hi) (cl:lo.elim 0 (clipAt n)=min x n) (cu:hi.elim n (clipAt n)=min y n) (b:sliceBounds lo hi none n=(((min x n:Nat):Int),((min y n:Nat):Int),1))
theorem parts_v {l u:Value} {n i j:Nat} (h1:BndV l 0 i) (h2:BndV u n j):PartsV l u n i j:=by
 have c:∀ m:Nat,clipAt n (m:Int)=min m n:=fun m=>by unfold clipAt;rw [if_neg (Int.not_lt.mpr (Int.natCast_nonneg m))];omega
 have b:∀ m:Nat,(if (m:Int) < 0 then max ((m:Int) + n) 0 else min (m:Int) n)=((min m n:Nat):Int):=fun m=>by rw [if_neg (Int.not_lt.mpr (Int.natCast_nonneg m))];omega
 cases h1 with
 | no e1 g1 =>
  subst g1
  cases h2 with
  | no e2 g2=>subst g2;exact ⟨_,_,e1,e2,by simp,by simp,by simp [sliceBounds]⟩
  | «at» m e2 g2 z2=>subst g2;exact ⟨_,_,e1,e2,by simp,c j,by simp only [sliceBounds,Option.getD_none,show (1:Int)>0 by decide,if_true];rw [Nat.zero_min];congr 2;have:=b j;omega⟩
 | «at» m e1 g1 z1 =>
  subst g1
  cases h2 with
  | no e2 g2=>subst g2;exact ⟨_,_,e1,e2,c i,by simp,by simp only [sliceBounds,Option.getD_none,show (1:Int)>0 by decide,if_true];rw [Nat.min_self];congr 1;have:=b i;omega⟩
  | «at» k e2 g2 z2=>subst g2;exact ⟨_,_,e1,e2,c i,c j,by simp only [sliceBounds,Option.getD_none,show (1:Int)>0 by decide,if_true];congr 1 <;> (try congr 1) <;> (have:=b i;have:=b j;omega)⟩
theorem VRels.cut {vs:List Value} {as:List AV} (r:VRels h R vs as) (x y:Nat):VRels h R (cutL vs x y) (cutL as x y):=by
 unfold cutL
 refine ⟨by rw [List.length_drop,List.length_drop,List.length_take,List.length_take,r.len],fun i v a e1 e2=>?_⟩
 rw [List.getElem?_drop,List.getElem?_take] at e1 e2
 by_cases hi:x + i < y
 ·rw [if_pos hi] at e1 e2
  exact r.ix _ _ _ e1 e2
 ·rw [if_neg hi] at e1;cases e1
inductive SlV (h:Heap) (R:Reg) (b:Value) (p:AV×AV):Prop
 | mk (a:Addr) (l u:Value) (e:b=.ref a) (t:h.IsSliceOf a l u .none) (rl:VRel h R l p.1) (ru:VRel h R u p.2)
theorem has_bytes {b:Array UInt8} {t:Tok}:HasItems s (.bytes b t):=⟨"bytes",_,typeIs_bytes _ _ _,FB.slot_bytes_getitem.lookup⟩
theorem has_list {a:Addr} {us:Array Value} {n:Nat} (g:s.heap.get? a=some (listOf us n)):HasItems s (.ref a):=⟨"list",_,(isList g).typeIs,slot_list_getitem.lookup⟩
theorem slc_list {a sa:Addr} {us:List Value} {xs:List AV} {n i j:Nat} {l u:Value} {Q:KV} {E:KX} (P:Pre Γ s R st) (hs:s.heap.IsSliceOf sa l u .none) (b1:BndV l 0 i) (b2:BndV u xs.length j) (g:s.heap.get? a=some (listOf us.toArray n)) (r:VRels s.heap R us xs) (z:xs.length<=LIM)
  (hp:Q (.ref st.H.length) ⟨st.fr,st.H++[.list (cutL xs i j)]⟩):wpAny Γ.M Γ.A (getItem (.ref a) (.ref sa)) (Lift Γ VRel s R Q) (LiftE Γ s R E) s:=by
 rw [<-r.len] at b2
 obtain ⟨lo,hi,pl,pu,_,_,e⟩:=parts_v b1 b2
 refine wpAny_getItem_list_slice (isList g) hs pl pu .none (by simp) ?_ (r.line z)
 rw [kmk_pick_nat _ (by rw [List.size_toArray];exact e)]
 rw [show (us.toArray.toList.drop (min i us.length)).take (min j us.length - min i us.length)=cutL us i j from cut_eq us i j]
 exact list_made (n:=0) P (r.cut i j) (Nat.le_trans (cut_len xs i j) z) hp
theorem sim_getSlice {v:Value} {p:AV×AV} (P:Pre Γ s R st) (ra:VRel s.heap R a x) (rv:SlV s.heap R v p):SimAt Γ VRel (getItem a v) (fun Q _=>slcP x p.1 p.2 st Q) s R:=fun Q E hp=>by
 obtain ⟨sa,l,u,rfl,hs,rl,ru⟩:=rv
 cases x with
 | bytes bs =>
  obtain ⟨t,rfl,z⟩:=ra.bytes_v
  obtain ⟨i,b1,hp⟩:=bnd_v (k:=fun x=>bndP p.2 bs.length fun y=>Q (.bytes (cutL bs x y)) st) rl hp
  obtain ⟨j,b2,hp⟩:=bnd_v ru hp
  obtain ⟨lo,hi,pl,pu,cl,cu,_⟩:=parts_v b1 b2
  refine wpP_of (getItem_meets (typeIs_bytes _ _ _) (by decide) FB.slot_bytes_getitem FB.entry_bytes_getitem (FB.args_bytes_getitem_2 _ _) (KBc.meets_slice2 bs.toArray t _ pl pu) ⟨hs,Nat.le_trans (KBc.size_picked_le _ lo hi) (by rw [List.size_toArray];exact Nat.le_trans z LIM_line),fun t' tk=>?_⟩)
  rw [KBc.picked_eq,List.size_toArray,cl,cu,cut_eq]
  exact ⟨_,_,R,hp,After.toks P,.bytes _ _ (Nat.le_trans (cut_len bs i j) z)⟩
 | ref m =>
  rcases hp with ⟨xs,h1,hp⟩|⟨its,xs,h1,hp⟩
  ·obtain ⟨p,us,n,rfl,_,z,g,r⟩:=P.lst ra h1
   obtain ⟨i,b1,hp⟩:=bnd_v rl hp
   obtain ⟨j,b2,hp⟩:=bnd_v ru hp
   exact wpP_of (slc_list P hs b1 b2 g r z hp)
  ·obtain ⟨a,b,rfl,g⟩:=ra.ref_v
   obtain ⟨e1,z,g,r⟩:=P.sat.at g h1
   obtain rfl:a=b:=e1
   obtain ⟨i,b1,hp⟩:=bnd_v rl hp
   obtain ⟨j,b2,hp⟩:=bnd_v ru hp
   exact wpP_of (slc_list P hs b1 b2 g r z hp)
 | _=>exact hp.elim
theorem slc_has {p:AV×AV} {Q:KV} (P:Pre Γ s R st) (ra:VRel s.heap R a x) (hp:slcP x p.1 p.2 st Q):HasItems s a:=by
 cases x with
 | bytes bs=>obtain ⟨t,rfl,_⟩:=ra.bytes_v;exact has_bytes
 | ref m =>
  rcases hp with ⟨xs,h1,hp⟩|⟨its,xs,h1,hp⟩
  ·obtain ⟨p,us,n,rfl,_,z,g,r⟩:=P.lst ra h1;exact has_list g
  ·obtain ⟨a,b,rfl,g⟩:=ra.ref_v
   obtain ⟨e1,z,g,r⟩:=P.sat.at g h1
   obtain rfl:a=b:=e1
   exact has_list g
 | _=>exact hp.elim
theorem sim_Slc {o:Expr} {lo hi:Option Expr} {eo el eh:AE} {p pos:Pos} {k q:Nat} (hl:SimAt Γ VRel (eval o Γ.X.env) (vE T C eo st) s R)
  (h1:∀ s1 st1 R1,Pre Γ s1 R1 st1->SimAt Γ VRel (valueOrNone (evalOpt lo Γ.X.env)) (vE T C el st1) s1 R1)
  (h2:∀ s1 st1 R1,Pre Γ s1 R1 st1->SimAt Γ VRel (valueOrNone (evalOpt hi Γ.X.env)) (vE T C eh st1) s1 R1) :
  SimAt Γ VRel (eval (.Subscript o (.Slice lo hi none p) pos) Γ.X.env) (vE T C (.slc eo el eh k q) st) s R:=by
 rw [eval_Subscript]
 refine SimAt.bind (p:=vE T C eo st) (g:=fun a st Q E=>vE T C el st (fun x st=>vE T C eh st (fun y st=>slcP a x y st Q) E) E) hl fun v1 s1 a st1 R1 af1 r1=>?_
 have key:SimAt Γ SlV (eval (.Slice lo hi none p) Γ.X.env) (fun Q E=>vE T C el st1 (fun x st=>vE T C eh st (fun y st=>Q (x,y) st) E) E) s1 R1:=by
  rw [arm_eval_Slice]
  refine SimAt.bind (g:=fun x st (Q:AV×AV->St->Prop) E=>vE T C eh st (fun y st=>Q (x,y) st) E) (h1 s1 st1 R1 af1.pre) fun v2 s2 x st2 R2 af2 r2=>?_
  refine SimAt.bind (g:=fun y st (Q:AV×AV->St->Prop) _=>Q (x,y) st) (h2 s2 st2 R2 af2.pre).holding fun v3 s3 y st3 R3 af3 r3=>?_
  have k9:=keeps9_h (R:=R3) (h:=s3.heap) (h':=s3.heap.push { cls:=.type "slice",data:=.fields #[v2,v3,.none] }) fun _ _ e=>Heap.get?_push_of_some _ e
  exact fun Q E hp=>wpP_of (wpAny_bind (wpAny_holding (wpAny_pure (wpAny_newObj_type (data:=.fields #[v2,v3,.none]) ⟨_,_,_,hp,After.push (tk:=s3.toks) af3.pre,_,v2,v3,rfl,Heap.IsSliceOf.new ..,((r2.mono (af3.keeps9 af2.pre)).mono k9),r3.mono k9⟩ (show (3:Nat)<=sizeLine + 2 by decide)))))
 refine SimAt.bind (p:=fun Q E=>vE T C el st1 (fun x st=>vE T C eh st (fun y st=>Q (x,y) st) E) E) (g:=fun xy st (Q:KV) _=>slcP a xy.1 xy.2 st Q) key.holding fun v2 s2 xy st2 R2 af2 r2=>?_
 have r1':=r1.mono (af2.keeps9 af1.pre)
 exact .standAt fun Q E hp=>sim_tail (value:=o) (slice:=.Slice lo hi none p) (slc_has af2.pre r1' hp) (sim_getSlice af2.pre r1' r2) Q E hp
end
end Ab
end
section
namespace Ab
open PySem PySem.W PySem.Calls PyProof.Rows PyProof.Rows.TI
theorem isStr_ne {k:Value} {a b:Str} (h:k.isStr a=true) (hne:b≠a):k.isStr b=false:=by
 cases k with
 | str x t=>exact beq_eq_false_iff_ne.mpr fun q=>hne (q.symm.trans (beq_iff_eq.mp h))
 | _=>cases h
theorem isStr_str (a:Str) (t:Tok):(Value.str a t).isStr a=true:=beq_self_eq_true a
def plainKeys (es:List DictEntry):Prop:=es.any (·.refKey)=false
def valOf (es:List DictEntry) (x:Str):Option Value:=(es.find? (·.key.isStr x)).map (·.val)
theorem getL_plain {name:Str} {es:List DictEntry} (h:plainKeys es):getL name es=some (valOf es name):=by
 unfold getL valOf
 cases es.find? (·.key.isStr name) with
 | some x=>rfl
 | none=>dsimp only;rw [show es.any _=false from h];rfl
structure PutOk (es es':List DictEntry) (name:Str) (v:Value):Prop where
 at':valOf es' name=some v
 other:∀ x,x≠name->valOf es' x=valOf es x
 plain:plainKeys es->plainKeys es'
 len:es'.length=if (valOf es name).isSome then es.length else es.length+1
theorem val_hit {e:DictEntry} {r:List DictEntry} {x:Str} (h:e.key.isStr x=true):valOf (e::r) x=some e.val:=by unfold valOf;rw [List.find?,h];rfl
theorem val_miss {e:DictEntry} {r:List DictEntry} {x:Str} (h:e.key.isStr x=false):valOf (e::r) x=valOf r x:=by unfold valOf;rw [List.find?,h]
theorem put_ok (name:Str) (hsh:Int) (t:Tok) (v:Value) (es:List DictEntry):PutOk es (putL name hsh (.str name t) v es) name v:=by
 have k0:=isStr_str name t
 induction es with
 | nil=>exact ⟨val_hit (e:=⟨hsh,.str name t,v⟩) k0,fun x hx=>val_miss (e:=⟨hsh,.str name t,v⟩) (isStr_ne k0 hx),fun _=>rfl,rfl⟩
 | cons e r ih =>
  cases he:e.key.isStr name with
  | true =>
   have e0:putL name hsh (.str name t) v (e::r)={ e with val:=v }::r:=by rw [putL,he];rfl
   rw [e0]
   exact ⟨val_hit (e:={ e with val:=v }) he,fun x hx=>(val_miss (e:={ e with val:=v }) (isStr_ne he hx)).trans (val_miss (isStr_ne he hx)).symm,fun h=>h,by rw [val_hit he];rfl⟩
  | false =>
   have e0:putL name hsh (.str name t) v (e::r)=e::putL name hsh (.str name t) v r:=by rw [putL,he];rfl
   rw [e0]
   refine ⟨(val_miss he).trans ih.at',fun x hx=>?_,fun h=>?_,?_⟩
   ·cases hx':e.key.isStr x with
    | true=>rw [val_hit hx',val_hit hx']
    | false=>rw [val_miss hx',val_miss hx'];exact ih.other x hx
   ·unfold plainKeys at h ⊢
    rw [List.any_cons,Bool.or_eq_false_iff] at h ⊢
    exact ⟨h.1,ih.plain h.2⟩
   ·rw [val_miss he,List.length_cons,List.length_cons,ih.len]
    cases (valOf r name).isSome <;> rfl
theorem fget_fset (a:Nat) (v:AV) (b:Nat):∀ fs,fget b (fset a v fs)=if b=a then some v else fget b fs:=by
 intro fs
 induction fs with
 | nil =>
  show (if a=b then some v else none)=_
  by_cases h:a=b
  ·rw [if_pos h,if_pos h.symm]
  ·rw [if_neg h,if_neg (Ne.symm h)];rfl
 | cons p r ih =>
  show fget b (if p.1=a then (p.1,v)::r else p::fset a v r)=if b=a then some v else (if p.1=b then some p.2 else fget b r)
  by_cases hc:p.1=a
  ·rw [if_pos hc]
   show (if p.1=b then some v else fget b r)=_
   by_cases h:p.1=b
   ·rw [if_pos h,if_pos (h.symm.trans hc)]
   ·rw [if_neg h,if_neg (fun q=>h (hc.trans q.symm)),if_neg h]
  ·rw [if_neg hc]
   show (if p.1=b then some p.2 else fget b (fset a v r))=_
   by_cases h:p.1=b
   ·rw [if_pos h,if_pos h,if_neg (fun q=>hc (h.trans q))]
   ·rw [if_neg h,if_neg h,ih]
theorem len_fset (a:Nat) (v:AV):∀ fs,(fset a v fs).length=if (fget a fs).isSome then fs.length else fs.length+1:=by
 intro fs
 induction fs with
 | nil=>rfl
 | cons p r ih =>
  show (if p.1=a then (p.1,v)::r else p::fset a v r).length=if (if p.1=a then some p.2 else fget a r).isSome then _ else _
  by_cases hc:p.1=a
  ·rw [if_pos hc,if_pos hc];rfl
  ·rw [if_neg hc,if_neg hc,List.length_cons,ih,List.length_cons]
   cases (fget a r).isSome <;> rfl
theorem nm_nodup:nmL.Nodup:=by decide +kernel
theorem nm_inj {a b:Nat} (ha:a < NM) (hb:b < NM) (h:Str.ofString (nm a)=Str.ofString (nm b)):a=b:=by
 have h:=ofString_inj h
 unfold nm at h
 rw [List.getD_eq_getElem?_getD,List.getD_eq_getElem?_getD,List.getElem?_eq_getElem ha,List.getElem?_eq_getElem hb] at h
 exact (List.getElem?_inj ha nm_nodup).mp (by rw [List.getElem?_eq_getElem ha,List.getElem?_eq_getElem hb];exact congrArg some h)
theorem FMap.set {h:Heap} {R:Reg} {es:List DictEntry} {fs:List (Nat×AV)} {a:Nat} {hsh:Int} {t:Tok} {rv:Value} {v:AV} (r:FMap h R es fs) (rl:es.length=fs.length) (ha:a < NM) (x:VRel h R rv v) :
  FMap h R (putL (Str.ofString (nm a)) hsh (.str (Str.ofString (nm a)) t) rv es) (fset a v fs)/\(putL (Str.ofString (nm a)) hsh (.str (Str.ofString (nm a)) t) rv es).length=(fset a v fs).length:=by
 have p:=put_ok (Str.ofString (nm a)) hsh t rv es
 generalize putL (Str.ofString (nm a)) hsh (.str (Str.ofString (nm a)) t) rv es=es' at p
 have hp:plainKeys es:=r.plain
 have hp':=p.plain hp
 have key:∀ b,b < NM->b≠a->getL (Str.ofString (nm b)) es'=getL (Str.ofString (nm b)) es:=fun b hb hne=>by
  rw [getL_plain hp',getL_plain hp,p.other _ fun q=>hne (nm_inj hb ha q)]
 refine ⟨⟨fun b w hb e=>?_,fun b hb e=>?_,hp'⟩,?_⟩
 ·rw [fget_fset] at e
  by_cases hq:b=a
  ·rw [if_pos hq] at e;cases e
   exact ⟨rv,by rw [hq,getL_plain hp',p.at'],x⟩
  ·rw [if_neg hq] at e
   rw [key b hb hq];exact r.sm b w hb e
 ·rw [fget_fset] at e
  by_cases hq:b=a
  ·rw [if_pos hq] at e;cases e
  ·rw [if_neg hq] at e
   rw [key b hb hq];exact r.nn b hb e
 ·rw [p.len,len_fset,rl]
  cases hf:fget a fs with
  | none =>
   have:=r.nn a ha hf
   rw [getL_plain hp] at this
   rw [Option.some.inj this];rfl
  | some y =>
   obtain ⟨z,e,_⟩:=r.sm a y ha hf
   rw [getL_plain hp] at e
   rw [Option.some.inj e];rfl
section
variable {Γ:Cx} {s s' s'':Shared} {R R' R'':Reg} {st st' st'':St} {h h':Heap} {H:AH} {a b:Value} {x y:AV} {C:Call}
theorem Sat.upd2_keeps9 (x:Sat Γ R h H) {D L:Addr} (hL:L∈Γ.X.own) (e:D∈R.map (·.2)) (hk:∀ b o,b≠L->b≠D->h.get? b=some o->h'.get? b=some o):Keeps9 h R h' R where
 tup a vs:=fun ⟨o,n,g,hc,hd⟩=>have f:=x.free_tup g hc hd;⟨o,n,hk a o (fun q=>f.2 (q▸hL)) (fun q=>f.1 (q▸e)) g,hc,hd⟩
 rng a _ _ _ _ _ _ r:=have f:=x.free_fields r rfl;hk a _ (fun q=>f.2 (q▸hL)) (fun q=>f.1 (q▸e)) r
 reg _ _ e:=e
theorem After.butFrameUpd {tk:Nat} {m:Str->Option Value} {l:Nat} {p:Addr×Addr} {o':AObj} {b':Obj} (P:Pre Γ s R st) (K:FxOk Γ.X) (hm:s.heap.Ns Γ.X.env.locals m) (hm':h'.Ns Γ.X.env.locals m)
  (hk:∀ b o,b≠Γ.X.env.locals->b≠p.2->s.heap.get? b=some o->h'.get? b=some o) (e:R[l]?=some p) (hb:h'.get? p.2=some b') (ho:ORel h' R p o') :
  After Γ s R { s with heap:=h',toks:=tk } R ⟨st.fr,st.H.set l o'⟩:=by
 obtain ⟨oL,es,ep,gL,hd,hrest⟩:=id hm'
 obtain ⟨oL0,_,_,gL0,_⟩:=id hm
 have hself:(s.heap.update Γ.X.env.locals fun _=>oL).get? Γ.X.env.locals=some oL:=Heap.get?_update_self _ gL0 (Obj.isFreed_of_dict hd)
 have a1:After Γ s R { s with heap:=s.heap.update Γ.X.env.locals fun _=>oL,toks:=tk } R st :=
  After.butFrame P K hm ⟨oL,es,ep,hself,hd,hrest⟩ fun b o hb e=>(Heap.get?_update_ne _ _ _ _ hb).trans e
 refine a1.trans (After.upd (s:={ s with heap:=s.heap.update Γ.X.env.locals fun _=>oL,toks:=tk }) a1.pre K e (fun b o hb g=>?_) hb ho)
 by_cases hq:b=Γ.X.env.locals
 ·subst hq
  exact inj_some hself g▸gL
 ·exact hk b o hq hb ((Heap.get?_update_ne _ _ _ _ hq).symm.trans g)
noncomputable def allBut2 (h:Heap) (L D:Addr):List (Addr×Obj):=(allBut h L).filter fun p=>p.1≠D
theorem mem_allBut2 {h:Heap} {L D b:Addr} {o:Obj}:(b,o)∈allBut2 h L D↔(b≠L/\h.get? b=some o)/\b≠D:=by
 unfold allBut2
 rw [List.mem_filter,mem_allBut,decide_eq_true_iff]
theorem news_allBut2 {h:Heap} {L D:Addr} {oD:Obj} (hD:D≠L) (e:h.get? D=some oD):News noHeap L h ((D,oD)::allBut2 h L D):=fun p hp =>
 (List.mem_cons.mp hp).elim (fun q=>q▸⟨e,hD,noHeap_get _⟩) fun hp=>have q:=(mem_allBut2 (b:=p.1) (o:=p.2)).mp hp;⟨q.1.2,q.1.1,noHeap_get _⟩
theorem inB (hK:Γ.G.K.In Γ.G.B) (P:Pre Γ s R st):Γ.G.K.In s.heap:=hK.keeps P.sat.keep
structure FieldOk (K:Frag) (C:Addr) (a:Nat):Prop where
 lt:a < NM
 get:plainGet K C (Str.ofString (nm a))=true
 dict:hasDictIn K C=true
 no:∃ attr,findIn K (.ref C) (Str.ofString (nm a))=some attr/\noGet K attr=true
 sets:findIn K (.ref C) "__setattr__"=some (some (.builtin "object.__setattr__"))
 over:plainOver K C=true
 taker:takerIn K C (Str.ofString (nm a))=some none
theorem VRel.handed (r:VRel h R a x):handedIn a=true:=by cases r <;> rfl
inductive IsIns (h:Heap) (R:Reg) (v:Value) (l c:Nat) (fs:List (Nat×AV)):Prop
 | mk (a D:Addr) (es:List DictEntry) (n:Nat) (e:v=.ref a) (g:R[l]?=some (a,D)) (i:h.get? a=some (instObj (CA c) D)) (d:h.get? D=some (dictOf es n)) (z:es.length=fs.length) (m:FMap h R es fs)
theorem Pre.ins {l c:Nat} {fs:List (Nat×AV)} (P:Pre Γ s R st) (r:VRel s.heap R a (.ref l)) (e:st.H[l]?=some (.inst c fs)):IsIns s.heap R a l c fs:=by
 obtain ⟨a,D,rfl,g⟩:=r.ref_v
 obtain ⟨es,n,i,d,z,m⟩:=P.sat.at g e
 exact ⟨a,D,es,n,rfl,g,i,d,z,m⟩
theorem sim_getAttr {l c k:Nat} {fs:List (Nat×AV)} {expr:Bool} (hK:Γ.G.K.In Γ.G.B) (P:Pre Γ s R st) (r:VRel s.heap R a (.ref l)) (eH:st.H[l]?=some (.inst c fs)) (F:FieldOk Γ.G.K (CA c) k) :
  SimAt Γ VRel (getAttr a (Str.ofString (nm k)) expr) (fun Q _=>optP (fget k fs) fun r=>Q r st) s R:=.opt fun v he=>by
 obtain ⟨a,D,es,n,rfl,g,i,d,z,m⟩:=P.ins r eH
 obtain ⟨rv,e1,e2⟩:=m.sm k v F.lt he
 obtain ⟨attr,ha,hn⟩:=F.no
 exact .leaf P fun q=>get_value (inB hK P) ⟨i,rfl,rfl,d⟩ (plainGet_of F.get).1 (findObj_own F.dict ha hn (by rw [lookIn_dict];exact e1)) e2.handed (q _ _ e2)
theorem sim_setAttr {l c k:Nat} {fs:List (Nat×AV)} (hK:Γ.G.K.In Γ.G.B) (P:Pre Γ s R st) (KX:FxOk Γ.X) (r:VRel s.heap R a (.ref l)) (eH:st.H[l]?=some (.inst c fs)) (hf:fs.length < 64) (ry:VRel s.heap R b y) (F:FieldOk Γ.G.K (CA c) k) :
  SimAt (β:=Unit) (α:=Unit) Γ (fun _ _ _ _=>True) (setAttr a (Str.ofString (nm k)) b) (fun Q _=>Q () ⟨st.fr,st.H.set l (.inst c (fset k y fs))⟩) s R:=.rule fun Q E hp=>by
 obtain ⟨a,D,es,n,rfl,g,i,d,z,m⟩:=P.ins r eH
 obtain ⟨mm,hm,_⟩:=P.fr.ns
 have hne:D≠Γ.X.env.locals:=Ne.symm (P.sat.snd_own g (List.mem_append_left _ KX.loc))
 have hne1:a≠Γ.X.env.locals:=fun q=>by
  obtain ⟨oL,_,_,gL,hd,_⟩:=hm
  rw [q,gL] at i;cases i;cases hd
 have hne2:a≠D:=fun q=>nomatch (q▸i).symm.trans d
 have I:InstAt s.heap a (instObj (CA c) D) (CA c) (some (dictOf es n)):=⟨i,rfl,rfl,d⟩
 have fm:=m.set (a:=k) (hsh:=PyData.keyHash Γ.G.w.params (Str.ofString (nm k))) (t:=s.toks+1) z F.lt ry
 refine set_plain (inB hK P) I F.sets (osa_dict (s:={ s with toks:=s.toks+1 }) (pre:=[]) (fr_of_ns hm) (news_allBut2 hne d) (show Γ.G.K.In s.heap from inB hK P) I rfl F.over F.taker F.dict
  (by rw [lookIn_dict,getL_plain m.plain];rfl) (fun _ h=>nomatch h) (fun p hp=>(mem_allBut2.mp (show (p.1,p.2)∈_ from hp)).2) (putName_dict _ _ _ _ _ _) rfl ?_ fun h' F' N'=>?_)
 ·rw [fm.2,len_fset]
  cases (fget k fs).isSome
  ·exact Nat.le_trans (Nat.succ_le_of_lt hf) (by decide)
  ·exact Nat.le_trans (Nat.le_of_lt hf) (by decide)
 ·have hD:=(N' _ (.head _)).1
  have hk:∀ b o,b≠Γ.X.env.locals->b≠D->s.heap.get? b=some o->h'.get? b=some o:=fun b o h1 h2 g=>(N' (b,o) (.tail _ (mem_allBut2.mpr ⟨⟨h1,g⟩,h2⟩))).1
  have k9:=P.sat.upd2_keeps9 (List.mem_append_left _ KX.loc) (mem_snd g) hk
  exact ⟨(),_,_,hp,After.butFrameUpd (tk:=s.toks + 2) P KX hm F'.ns hk g hD ⟨_,_,hk _ _ hne1 hne2 i,hD,fm.2,fm.1.mono k9⟩,trivial⟩
end
end Ab
end
section
namespace Ab
open PySem PySem.W PySem.Calls PyProof.Rows PyProof.Rows.TI
section
variable {M:Model} {A:Around} {E:Value->Shared->Prop} {s:Shared} {h h':Heap}
theorem wpAny_turns {β:Type} {n:Nat} {body:Nat->β->Sem (ForInStep β)} {Q:β->Shared->Prop} (I:Nat->β->Prop)
  (hb:∀ i b,i < n->I i b->∀ Q':ForInStep β->Shared->Prop,(∀ b',I (i+1) b'->Q' (.yield b') s)->wpAny M A (body i b) Q' E s) (hq:∀ b,I n b->Q b s)
  (k:Nat):∀ (i:Nat) (b:β),i + k=n->I i b->wpAny M A (forIn (List.range' i k) b body) Q E s:=by
 induction k with
 | zero =>
  intro i b e hi
  subst e
  exact wpAny_pure (hq b hi)
 | succ k ih =>
  intro i b e hi
  rw [List.range'_succ,List.forIn_cons]
  exact wpAny_bind (hb i b (by omega) hi _ fun b' hb'=>ih (i+1) b' (by omega) hb')
theorem wpAny_rangeTurns {β:Type} {n:Nat} {body:Nat->β->Sem (ForInStep β)} {Q:β->Shared->Prop} {b:β} (I:Nat->β->Prop) (h0:I 0 b)
  (hb:∀ i b,i < n->I i b->∀ Q':ForInStep β->Shared->Prop,(∀ b',I (i+1) b'->Q' (.yield b') s)->wpAny M A (body i b) Q' E s) (hq:∀ b,I n b->Q b s) :
  wpAny M A (forIn [0:n] b body) Q E s:=by
 rw [Std.Legacy.Range.forIn_eq_forIn_range',show ([0:n]:Std.Legacy.Range).size=n by simp [Std.Legacy.Range.size]]
 exact wpAny_turns I hb hq n 0 b (Nat.zero_add n) h0
theorem wp_seqItems {a:Addr} {its:Array Value} {n:Nat} {Q:Option (Array Value)->Shared->Prop} (g:s.heap.get? a=some (W.listOf its n)) (h:Q (some its) s):wpAny M A (seqItems? (.ref a)) Q E s:=by
 unfold seqItems?
 exact wpAny_bind (wpAny_load g (wpAny_pure h))
theorem wp_joinLetGo {keep:List Value} {Q:Unit->Shared->Prop} (hq:Q () s) (l:List (Value×Option Value)):(∀ q∈l,q.2=none)->wpAny M A (Builtin.Bytes.joinLetGo l keep) Q E s:=by
 induction l with
 | nil=>exact fun _=>wpAny_pure hq
 | cons q rest ih =>
  intro hl
  obtain ⟨x,w⟩:=q
  obtain rfl:w=none:=hl (x,w) (List.mem_cons_self ..)
  unfold Builtin.Bytes.joinLetGo
  exact wpAny_bind (wpAny_letGo (ih fun q hq=>hl q (List.mem_cons_of_mem _ hq)))
theorem joined_go (l:List (List UInt8)):∀ (k:Nat) (acc:Array UInt8),((l.map List.toArray).zipIdx k).foldl (fun out (x:Array UInt8×Nat)=>(if x.2>0 then out++#[] else out)++x.1) acc=acc++l.flatten.toArray:=by
 induction l with
 | nil=>intro k acc;exact Array.append_empty.symm
 | cons b l ih =>
  intro k acc
  rw [List.map_cons,List.zipIdx_cons,List.foldl_cons,ih (k+1)]
  simp
theorem joined_eq (bs:List (List UInt8)):Builtin.Bytes.joined #[] (bs.map List.toArray)=bs.flatten.toArray:=(joined_go bs 0 #[]).trans Array.empty_append
theorem sizes_eq (l:List (List UInt8)):∀ (k:Nat),(l.map List.toArray).foldl (fun n (x:Array UInt8)=>n + x.size) k=k + l.flatten.length:=by
 induction l with
 | nil=>intro k;rfl
 | cons b l ih =>
  intro k
  rw [List.map_cons,List.foldl_cons,ih,List.size_toArray,List.flatten_cons,List.length_append,Nat.add_assoc]
end
section
variable {Γ:Cx} {s s' s'':Shared} {R R' R'':Reg} {st st' st'':St} {h h':Heap} {H:AH} {a b:Value} {x y:AV} {C:Call}
theorem lst_map {f:Array Value->Array Value} {l:Nat} {a:Addr} {ys:List AV} {us:List Value} {k:Nat} {Q:KV} {v:Value} {r:AV} (P:Pre Γ s R st) (K:FxOk Γ.X) (e:R[l]?=some (a,a)) (g:s.heap.get? a=some (listOf us.toArray k)) (z:ys.length<=LIM) (hr:VRels s.heap R (f us.toArray).toList ys) (rv:VRel s.heap R v r)
  (hp:Q r ⟨st.fr,st.H.set l (.list ys)⟩):Lift Γ VRel s R Q v { s with heap:=s.heap.update a (Obj.mapSeq f) }:=by
 have hk:∀ b o,b≠a->s.heap.get? b=some o->(s.heap.update a (Obj.mapSeq f)).get? b=some o:=fun b o hb e=>(Heap.get?_update_ne _ _ _ _ hb).trans e
 have k9:=P.sat.upd_keeps9 (.inl (mem_snd e)) hk
 have q:=PySem.IsL.update g f
 exact ⟨r,_,R,hp,After.upd (tk:=s.toks) P K e hk q ⟨_,_,rfl,z,q,hr.mono k9⟩,rv.mono k9⟩
theorem sim_append {l:Nat} {xs:List AV} (P:Pre Γ s R st) (K:FxOk Γ.X) (r:VRel s.heap R a (.ref l)) (hl:st.H[l]?=some (.list xs)) (rb:VRel s.heap R b y) (hz:xs.length < LIM) :
  SimAt Γ VRel (call (.builtin "list.append") [a,b]) (fun Q _=>Q .none ⟨st.fr,st.H.set l (.list (xs++[y]))⟩) s R:=by
 obtain ⟨a,us,n,rfl,e,z,g,rv⟩:=P.lst r hl
 refine .rule fun Q E hp=>append_at g (fun h' hs ho=>?_) (by rw [List.size_toArray,rv.len];exact Nat.le_trans (Nat.le_of_lt hz) LIM_line)
 have hk:∀ b o,b≠a->s.heap.get? b=some o->h'.get? b=some o:=fun b o hb e=>(hs.2 b hb).trans e
 have k9:=P.sat.upd_keeps9 (.inl (mem_snd e)) hk
 exact ⟨.none,_,R,hp,After.upd (tk:=s.toks) P K e hk ho ⟨us++[b],_,rfl,by rw [List.length_append];exact hz,by rw [<-List.push_toArray];exact ho,(rv.app (.cons rb .nil)).mono k9⟩,.none⟩
theorem sim_extend {l k:Nat} {xs ys:List AV} (P:Pre Γ s R st) (K:FxOk Γ.X) (r:VRel s.heap R a (.ref l)) (r':VRel s.heap R b (.ref k)) (hl:st.H[l]?=some (.list xs)) (hl':st.H[k]?=some (.list ys)) (hz:xs.length + ys.length<=LIM) :
  SimAt Γ VRel (call (.builtin "list.extend") [a,b]) (fun Q _=>Q .none ⟨st.fr,st.H.set l (.list (xs++ys))⟩) s R:=by
 obtain ⟨a,us,n,rfl,e,z,g,rv⟩:=P.lst r hl
 obtain ⟨b,us',n',rfl,e',z',g',rv'⟩:=P.lst r' hl'
 have hz':us.length + us'.length<=1048576:=by rw [rv.len,rv'.len];exact hz
 have hz1:us.length + us'.length<=sizeLine:=Nat.le_trans hz' LIM_line
 have hL:Builtin.List.listTooLong (us.toArray.size + us'.toArray.size)=false:=by
  unfold Builtin.List.listTooLong
  rw [List.size_toArray,List.size_toArray]
  exact decide_eq_false (Nat.not_lt.mpr hz1)
 refine .rule fun Q E hp=>call_meets PySem.F.slot_list_extend ⟨_,g,rfl⟩ PySem.F.entry_list_extend (PySem.F.args_list_extend_2 _ _) (PySem.AutoSeq1.list_extend_list_list_0 a _ n b _ n' (by rw [hL,Bool.and_false];nofun) (rv.line z) (by rw [List.size_toArray,List.size_toArray];exact Nat.le_succ_of_le hz1)) ⟨g,g',?_⟩
 refine lst_map (f:=fun x=>x++us'.toArray) P K e g (by rw [List.length_append];exact hz) ?_ .none hp
 rw [List.append_toArray]
 exact rv.app rv'
theorem bools_get {us:List Value} {is:List Bool} {i:Bool} (r:VRels h R us (is.map .bool)) {m:Nat} (hm:m < us.length):fb i us[m]=true↔is[m]?=some i:=by
 have hm':m < is.length:=by rw [r.len,List.length_map] at hm;exact hm
 have q:=r.ix m _ _ (List.getElem?_eq_getElem hm) (by rw [List.getElem?_map,List.getElem?_eq_getElem hm'];rfl)
 rw [q.bool_v,List.getElem?_eq_getElem hm']
 exact beq_iff_eq.trans ⟨fun q=>congrArg some q,fun q=>Option.some.inj q⟩
theorem sim_index {l k:Nat} {is:List Bool} {i:Bool} (P:Pre Γ s R st) (r:VRel s.heap R a (.ref l)) (rb:VRel s.heap R b (.bool i)) (hl:st.H[l]?=some (.list (is.map .bool))) (h1:is[k]?=some i) (h2:∀ j,j < k->is[j]?≠some i) :
  SimAt Γ VRel (call (.builtin "list.index") [a,b]) (fun Q _=>Q (.int (k:Int)) st) s R:=by
 obtain ⟨a,us,n,rfl,e,z,g,rv⟩:=P.lst r hl
 obtain rfl:=rb.bool_v
 have k1:=bools_fb (A:=Γ.A.in1) (s:=s) (i:=i) rv
 have hk:k < us.length:=by rw [rv.len,List.length_map];exact (List.getElem?_eq_some_iff.mp h1).1
 have hz:k<=1048576:=Nat.le_trans (Nat.le_of_lt hk) (rv.len▸z)
 refine .rule fun Q E hp=>call_meets PySem.F.slot_list_index ⟨_,g,rfl⟩ PySem.F.entry_list_index (PySem.F.args_list_index_2 _ _) (PySem.SeqAt.list_indexAt a us.toArray n none #[] (.bool i) (fb i) k hk (Int.lt_of_le_of_lt (Int.ofNat_le.mpr hz) (by decide)) ((bools_get rv hk).mpr h1) fun m hm hlt=>Bool.eq_false_iff.mpr fun q=>h2 m hlt ((bools_get rv hm).mp q)) ⟨g,fun y hy=>k1.1 y (List.mem_toArray.mp hy),?_⟩
 exact ⟨_,_,R,hp,After.toks P,.int _ _⟩
theorem bytes_at {us:List Value} {bs:List (List UInt8)} (r:VRels h R us (bs.map .bytes)) {i:Nat} (hi:i < bs.length):∃ t,us[i]?=some (.bytes bs[i].toArray t):=by
 obtain ⟨v,e,q⟩:=r.get (i:=i) (a:=.bytes bs[i]) (by rw [List.getElem?_map,List.getElem?_eq_getElem hi];rfl)
 obtain ⟨t,rfl,_⟩:=q.bytes_v
 exact ⟨t,e⟩
structure JoinI (bs:List (List UInt8)) (i:Nat) (b:Array (Array UInt8)×List (Value×Option Value)):Prop where
 one:b.1=((bs.take i).map List.toArray).toArray
 two:∀ q∈b.2,q.1.onHeap=false/\q.2=none
theorem JoinI.next {bs:List (List UInt8)} {i:Nat} {b:Array (Array UInt8)×List (Value×Option Value)} {t:Tok} (J:JoinI bs i b) (hi:i < bs.length):JoinI bs (i+1) (b.1.push bs[i].toArray,b.2++[(.bytes bs[i].toArray t,none)]) :=
 ⟨by rw [J.one,List.take_succ_eq_append_getElem hi,List.map_append,List.push_toArray];rfl,fun q hq=>(List.mem_append.mp hq).elim (J.two q) fun hq=>List.mem_singleton.mp hq▸⟨rfl,rfl⟩⟩
theorem JoinI.heap {bs:List (List UInt8)} {i:Nat} {b:Array (Array UInt8)×List (Value×Option Value)} (J:JoinI bs i b):(b.2.any fun x=>x.1.onHeap)=false:=List.any_eq_false.mpr fun q hq=>by rw [(J.two q hq).1];nofun
theorem sim_join {k:Nat} {bs:List (List UInt8)} (P:Pre Γ s R st) (ra:VRel s.heap R a (.bytes [])) (r:VRel s.heap R b (.ref k)) (hl:st.H[k]?=some (.list (bs.map .bytes))) (hz:bs.flatten.length<=LIM) :
  SimAt Γ VRel (call (.builtin "bytes.join") [a,b]) (fun Q _=>Q (.bytes bs.flatten) st) s R:=by
 obtain ⟨t,rfl,_⟩:=ra.bytes_v
 obtain ⟨p,vs,n,rfl,_,_,g,rv⟩:=P.lst r hl
 have k1:vs.length=bs.length:=rv.len.trans (List.length_map _)
 refine .rule fun Q0 E0 hp=>wpAny_call (codeAny_call_builtin slot_bytes_join.plain entry_bytes_join (slot_bytes_join.check _ _ _ _ _ _ _ _ (show typeOf (.bytes #[] t)=pure (Value.type "bytes") from rfl) (args_bytes_join _ _) ?_))
 unfold Builtin.«bytes.join» Builtin.Bytes.joinM
 refine wpAny_bind (wpAny_pure (a:=(Value.bytes #[] t,Value.ref p)) ?_)
 dsimp only
 rw [if_pos (by decide)]
 refine wpAny_bind ?_
 unfold Builtin.Bytes.joinItems
 refine wpAny_bind (wpAny_typeOf_ref g ?_)
 rw [if_pos (show ((W.listOf vs.toArray n).cls==Value.type "list" || (W.listOf vs.toArray n).cls==Value.type "tuple")=true from (by decide:(Value.type "list"==Value.type "list" || Value.type "list"==Value.type "tuple")=true))]
 refine wpAny_pure (wpAny_bind (wp_seqItems g ?_))
 dsimp only
 rw [if_pos (by decide)]
 have done:∀ {x:List UInt8} {tk t:Nat},x=bs.flatten->Lift Γ VRel s R Q0 (.bytes x.toArray t) { s with toks:=tk }:=fun e=>⟨_,_,R,hp,After.toks P,e▸.bytes _ _ (e▸hz)⟩
 have fin:∀ b,JoinI bs bs.length b->∀ (Q:PySem.Fin->Shared->Prop) (E:Value->Shared->Prop),(Q (.done (.ret (.bytes bs.flatten.toArray s.toks))) { s with toks:=s.toks+1 })->wpAny Γ.M Γ.A.in1 (do
   let sep ← Builtin.Bytes.payload (.bytes #[] t)
   if Builtin.Bytes.tooLong (b.1.foldl (· + ·.size) (sep.size * (b.1.size - 1))) then unsupported s!"{toString Builtin.Bytes.Kind.bytes.name ++ toString ".join"}:memory"
   let result ← Builtin.Bytes.Kind.bytes.new (Builtin.Bytes.joined sep b.1.toList)
   holding (result::b.2.flatMap fun (y,u)=>y::u.toList) point
   Builtin.Bytes.joinLetGo b.2 [result]
   ret result) Q E s:=by
  intro b J Q E hQ
  refine wpAny_bind (wpAny_bind (wpAny_pure (wpAny_pure ?_)))
  rw [J.one,List.take_length]
  have hT:Builtin.Bytes.tooLong (((bs.map List.toArray).toArray).foldl (· + ·.size) ((#[]:Array UInt8).size * ((bs.map List.toArray).toArray.size - 1)))=false:=by
   rw [List.foldl_toArray,show (#[]:Array UInt8).size * ((bs.map List.toArray).toArray.size - 1)=0 from Nat.zero_mul _,sizes_eq bs 0,Nat.zero_add]
   exact decide_eq_false (Nat.not_lt.mpr (Nat.le_trans hz LIM_line))
  rw [hT,if_neg (by decide),joined_eq]
  exact wpAny_bind (wpAny_mkBytes (wpAny_bind (wpAny_holding (wpAny_point (wpAny_bind (wp_joinLetGo (wpAny_pure hQ) _ fun q hq=>(J.two q hq).2))))) (Nat.le_trans hz LIM_line))
 rcases vs with _|⟨x,_|⟨y,vs⟩⟩
 ·refine (show wpAny _ _ (forIn [0:0] (_,_) _ >>= _) _ _ s from ?_)
  refine wpAny_bind (wpAny_rangeTurns (I:=fun i b=>JoinI bs i b) ⟨rfl,fun _ hq=>nomatch hq⟩ (fun i b hi=>absurd hi (Nat.not_lt_zero _)) ?_)
  exact fun b J=>fin b (k1▸J) _ _ (done rfl)
 ·refine (show wpAny _ _ (typeOf x >>= _) _ _ s from ?_)
  obtain ⟨t0,ht0⟩:=bytes_at rv (i:=0) (k1▸Nat.one_pos)
  rw [show x=_ from Option.some.inj ht0]
  refine wpAny_bind (wpAny_pure ?_)
  rw [if_pos (by decide)]
  refine wpAny_bind (wpAny_rule (wpAny_pure (done ?_)))
  match bs,k1 with
  | [b0],_=>exact (List.flatten_singleton (l:=b0)).symm
 ·refine (show wpAny _ _ (forIn [0:vs.length+1+1] (_,_) _ >>= _) _ _ s from ?_)
  refine wpAny_bind (wpAny_rangeTurns (I:=fun i b=>JoinI bs i b) ⟨rfl,fun _ hq=>nomatch hq⟩ ?_ fun b J=>fin b (k1▸J) _ _ (done rfl))
  intro i b hi J Q' hQ'
  have hi':i < bs.length:=k1▸hi
  obtain ⟨ti,e1⟩:=bytes_at rv hi'
  refine wpAny_bind (wp_seqItems g ?_)
  dsimp only
  rw [show (List.toArray (x::y::vs)).getD i Value.none=.bytes bs[i].toArray ti by rw [Array.getD_eq_getD_getElem?,List.getElem?_toArray,e1];rfl,J.heap,if_neg (by decide)]
  refine wpAny_bind (wpAny_holding (takeBuffer_bytes ?_))
  dsimp only
  refine wpAny_bind (wp_seqItems g ?_)
  dsimp only
  rw [if_neg (by simp)]
  exact wpAny_pure (hQ' _ (J.next hi'))
noncomputable def lmId (m:LM):String:=LM.casesOn m "list.append" "list.index" "list.extend" "bytearray.append" "bytearray.extend" "bytes.join"
theorem sim_lmCall {m:LM} {vs:List Value} {as:List AV} (K:FxOk Γ.X) (P:Pre Γ s R st) (ra:VRel s.heap R a x) (r:VRels s.heap R vs as):SimAt Γ VRel (call (.builtin (lmId m)) (a::vs)) (fun Q _=>lmP m x as st Q) s R:=by
 have one:∀ {f:AV->PT AV} {v:Value},(∀ b y,VRel s.heap R b y->SimAt Γ VRel (call v [a,b]) (f y) s R)->SimAt Γ VRel (call v (a::vs)) (fun Q E=>oneP as fun a=>f a Q E) s R:=fun {f v} h=>.one fun x e=>by
  subst e
  obtain ⟨b,rfl,q⟩:=r.inv1
  exact h b x q
 cases m with
 | append=>exact .isRef fun l e=>one fun b y q=>.lst fun xs h1=>.and fun z=>sim_append P K (e▸ra) h1 q z
 | index =>
  exact .isRef fun l e=>one fun b y q=>.isBool fun i f=>.lst fun xs h1=>.ex fun is=>.ex fun k=>.and fun g=>.and fun h2=>.and fun h3=>sim_index P (e▸ra) (f▸q) (g▸h1) h2 h3
 | extend =>
  exact .isRef fun l e=>one fun b y q=>.isRef fun m f=>.lst fun xs h1=>.lst fun ys h2=>.and fun z=>sim_extend P K (e▸ra) (f▸q) h1 h2 z.2
 | bappend =>
  refine .isRef fun l e=>one fun b y q=>.nt fun n f=>.bar fun bs h1=>.and fun z=>?_
  subst f
  obtain ⟨t,rfl⟩:=q.int_v
  exact sim_bappend P K (e▸ra) h1 z.1 z.2
 | bextend =>
  refine .isRef fun l e=>one fun b y q=>.isBytes fun c f=>.bar fun bs h1=>.and fun z=>?_
  subst f
  obtain ⟨t,rfl,_⟩:=q.bytes_v
  exact sim_bextend P K (e▸ra) h1 z
 | join=>exact .and fun e=>one fun b y q=>.isRef fun l f=>.lst fun xs h1=>.ex fun bs=>.and fun g=>.and fun z=>sim_join P (e▸ra) (f▸q) (g▸h1) z
theorem lm_method {m:LM} {pl:Sem Bool} {Q:Value×List Value->Shared->Prop} {E:Value->Shared->Prop} (P:Pre Γ s R st) (ra:VRel s.heap R a x) (hk:lmK m x st.H) (h:Q (.builtin (lmId m),[a]) s) :
  wpAny Γ.M Γ.A (getMethod a (Str.ofString m.name) pl) Q E s:=by
 have list:(x.isRef fun l=>Lst st.H l fun _=>True)->∃ b o,a=.ref b/\s.heap.get? b=some o/\o.cls=.type "list"/\o.dict=none:=fun hk=>by
  cases x with
  | ref l=>obtain ⟨xs,h1,_⟩:=hk;obtain ⟨b,us,n,rfl,_,_,g,_⟩:=P.lst ra h1;exact ⟨b,_,rfl,g,rfl,rfl⟩
  | _=>exact hk.elim
 have barr:(x.isRef fun l=>Bar st.H l fun _=>True)->∃ b o,a=.ref b/\s.heap.get? b=some o/\o.cls=.type "bytearray"/\o.dict=none:=fun hk=>by
  cases x with
  | ref l=>obtain ⟨xs,h1,_⟩:=hk;obtain ⟨b,rfl,_,_,g⟩:=P.bar ra h1;exact ⟨b,_,rfl,g,rfl,rfl⟩
  | _=>exact hk.elim
 have go:∀ {T:String} {name:Str} {id:String},(∃ b o,a=.ref b/\s.heap.get? b=some o/\o.cls=.type T/\o.dict=none)->PlainAttrs T->Slot T name id->typeOf (.builtin id)=pure (.type "method_descriptor")->Q (.builtin id,[a]) s->wpAny Γ.M Γ.A (getMethod a name pl) Q E s:=fun {T name id} x h1 h2 h3 h4=>by
  obtain ⟨b,o,rfl,g,hc,hd⟩:=x
  exact getMethod_builtin ⟨o,g,hc⟩ h1 h2 h3 (fun c e=>by cases e;exact ⟨o,g,hd⟩) h4
 cases m with
 | append=>exact go (list hk) PySem.F.plainAttrs_list PySem.F.slot_list_append PySem.F.type_list_append h
 | index=>exact go (list hk) PySem.F.plainAttrs_list PySem.F.slot_list_index PySem.F.type_list_index h
 | extend=>exact go (list hk) PySem.F.plainAttrs_list PySem.F.slot_list_extend PySem.F.type_list_extend h
 | bappend=>exact go (barr hk) plainAttrs_bytearray slot_ba_append type_ba_append h
 | bextend=>exact go (barr hk) plainAttrs_bytearray slot_ba_extend type_ba_extend h
 | join =>
  obtain rfl:x=.bytes []:=hk
  obtain ⟨t,rfl,_⟩:=ra.bytes_v
  exact getMethod_builtin (PySem.W.typeIs_bytes _ _ _) PySem.W.FB.plainAttrs_bytes slot_bytes_join type_bytes_join (fun _ e=>nomatch e) h
end
end Ab
end
section
namespace Ab
open PySem PySem.W PySem.Calls PyProof.Rows PyProof.Rows.TI
section
variable {Γ:Cx} {s s' s'':Shared} {R R' R'':Reg} {st st' st'':St} {h h':Heap} {H:AH}
theorem funFrames_mono {h B B':Heap}:∀ {l:List Env},h.FunFrames B l->(∀ env∈l,∀ L,env.frame=some L->B'.get? L=none)->h.FunFrames B' l:=fun {l}=>by
 induction l with
 | nil=>exact fun _ _=>trivial
 | cons env r ih=>exact fun q k=>⟨q.1,q.2.1.elim fun L q=>q.elim fun o q=>⟨L,o,q.1,k env (.head _) L q.1,q.2.2⟩,ih q.2.2 fun e he=>k e (.tail _ he)⟩
def framesOf (l:List Env):List Addr:=l.filterMap (·.frame)
theorem mem_framesOf {l:List Env} {L:Addr}:L∈framesOf l↔∃ env∈l,env.frame=some L:=by
 unfold framesOf;rw [List.mem_filterMap]
structure Stays (h:Heap) (fl ex:List Addr) (h':Heap):Prop where
 rest:∀ b o,b∉fl->b∉ex->h.get? b=some o->h'.get? b=some o
 slots:∀ b o,b∈fl->(∀ vs,o.data≠.fields vs)->h.get? b=some o->∃ sl,h'.get? b=some { o with slots:=sl }
theorem Stays.of {h h':Heap} {fl ex:List Addr} (h1:(gone h (fl++ex)).StaysIn h') (h2:h.UpToSlots h'):Stays h fl ex h' :=
 ⟨fun b o hb he e=>h1 b o (by rw [gone_get (fun q=>(List.mem_append.mp q).elim hb he)];exact e),fun b o _ hn e=>h2 b o e hn⟩
inductive ValObj (o:Obj):Prop
 | seq (vs:Array Value) (n:Nat) (e:o.data=.seq vs n)
 | plain (e:o.data=.plain)
 | rng (vs:Array Value) (c:o.cls=.type "range") (e:o.data=.fields vs) (z:vs.size<=3)
structure Junk (Γ:Cx) (R:Reg) (h0 h:Heap) (b:Addr):Prop where
 new:h0.get? b=none
 reg:b∉R.map (·.2)
 own:b∉Γ.X.own
 obj:∃ o,h.get? b=some o/\¬ ValObj o
theorem FrObj.noVal {o:Obj} (f:FrObj o):¬ ValObj o:=fun v=>f.elim (fun ⟨_,_,e⟩=>by cases v with
  | seq _ _ q=>exact nomatch e.symm.trans q
  | plain q=>exact nomatch e.symm.trans q
  | rng _ _ q _=>exact nomatch e.symm.trans q) fun ⟨_,e⟩=>by cases v with
  | seq _ _ q=>exact nomatch e.symm.trans q
  | plain q=>exact nomatch e.symm.trans q
  | rng _ _ q _=>exact nomatch e.symm.trans q
structure Kept (Γ:Cx) (R:Reg) (h h':Heap):Prop where
 own:∀ b o,b∈Γ.X.own->h.get? b=some o->∃ sl,h'.get? b=some { o with slots:=sl }
 reg:∀ b o,b∈R.map (·.2)->h.get? b=some o->h'.get? b=some o
 val:∀ b o,h.get? b=some o->ValObj o->h'.get? b=some o
theorem frames_own (K:FxOk Γ.X) {b:Addr} (hb:b∈framesOf Γ.X.chain):b∈Γ.X.own:=(mem_framesOf.mp hb).elim fun env q=>K.chainIn env q.1 b q.2
theorem Kept.of {ex:List Addr} (S:Sat Γ R h H) (K:FxOk Γ.X) (nr:∀ b∈ex,b∉R.map (·.2)) (no:∀ b∈ex,b∉Γ.X.own) (nv:∀ b∈ex,∃ o,h.get? b=some o/\¬ ValObj o) (z:Stays h (framesOf Γ.X.chain) ex h'):Kept Γ R h h' where
 own b o hb g:=by
  by_cases hq:b∈framesOf Γ.X.chain
  ·exact (S.frs b hb).casesOn fun o' g' f=>z.slots b o hq (inj_some g' g▸f).noFields g
  ·exact ⟨o.slots,z.rest b o hq (fun q=>no b q hb) g⟩
 reg b o hb g:=z.rest b o (fun q=>(List.nodup_append.mp S.nodup).2.2 b hb b (frames_own K q) rfl) (fun q=>nr b q hb) g
 val b o g v:=z.rest b o (fun q=>(S.frs b (frames_own K q)).casesOn fun o' g' f=>f.noVal (inj_some g' g▸v)) (fun q=>(nv b q).elim fun o' q=>q.2 (inj_some q.1 g▸v)) g
theorem Kept.keeps9 (k:Kept Γ R h h'):Keeps9 h R h' R :=
 ⟨fun a _ ⟨o,n,g,c,d⟩=>⟨o,n,k.val a o g (.seq _ _ d),c,d⟩,fun a _ _ _ _ _ _ r=>k.val a _ r (.rng _ rfl rfl (Nat.le_refl _)),fun _ _ e=>e⟩
theorem Kept.frs (k:Kept Γ R h h') (S:Sat Γ R h H) {b:Addr} (hb:b∈Γ.X.own):Owned h' b:=(S.frs b hb).casesOn fun o g f=>(k.own b o hb g).elim fun sl e=>⟨_,e,f⟩
theorem Kept.objs (k:Kept Γ R h h') (S:Sat Γ R h H) {i:Nat} {p:Addr×Addr} {o:AObj} (e1:R[i]?=some p) (e2:H[i]?=some o):ORel h' R p o:=by
 have O:=S.objs i p o e1 e2
 refine O.mono k.keeps9 (fun b g=>?_) fun b g=>k.reg _ b (mem_snd e1) g
 cases o with
 | list vs=>obtain ⟨us,n,e,z,g',r⟩:=O;rw [e] at g ⊢;exact k.reg _ b (mem_snd e1) g
 | barr bs=>rw [O.e] at g ⊢;exact k.reg _ b (mem_snd e1) g
 | frz its vs=>rw [O.e] at g ⊢;exact k.reg _ b (mem_snd e1) g
 | inst c f=>obtain ⟨es,n,g',d,l,r⟩:=O;exact k.val _ b g (.plain (inj_some g' g▸rfl))
theorem Kept.sat (k:Kept Γ R h h') (S:Sat Γ R h H) (hB:∀ b o,Γ.G.B.get? b=some o->h'.get? b=some o):Sat Γ R h' H :=
 ⟨hB,S.newR,S.newC,S.nodup,S.inj,S.len,fun _ _ _ e1 e2=>k.objs S e1 e2,fun _ hb=>k.frs S hb⟩
theorem Kept.fr (k:Kept Γ R h h') (K:FxOk Γ.X) {names:List String} {fr:List (Option AV)} (x:FrRel h R Γ.X.env names fr):FrRel h' R Γ.X.env names fr :=
 ⟨x.len,x.ns.casesOn fun m n r=>⟨m,n.elim fun o q=>q.elim fun es q=>q.elim fun ep q=>(k.own _ o (List.mem_append_left _ K.loc) q.1).elim fun sl e=>⟨_,es,ep,e,q.2⟩,fun i y a e1 e2 e3=>(r i y a e1 e2 e3).elim fun v q=>⟨v,q.1,q.2.mono k.keeps9⟩⟩,
  fun i y e1 e2=>(x.cel i y e1 e2).casesOn fun c o ov e g d r=>(k.own c o (K.cells _ _ e) g).elim fun sl e'=>⟨c,_,ov,e,e',d,fun a q=>(r a q).elim fun v q=>⟨v,q.1,q.2.mono k.keeps9⟩⟩⟩
theorem After.kept (K:FxOk Γ.X) (S0:∀ b o,Γ.G.B.get? b=some o->s.heap.get? b=some o) (af:After Γ s R s' R' st') (k:Kept Γ R' s'.heap h')
  (same:∀ b o,(s.heap.get? b).isSome->b∉Γ.X.own->s'.heap.get? b=some o->h'.get? b=some o):After Γ s R { s' with heap:=h' } R' st':=by
 have P:=af.pre
 refine ⟨by show _=_;rw [af.eq],⟨P.gens,k.sat P.sat fun b o e=>same b o (by rw [S0 b o e];rfl) (fun q=>some_ne (P.sat.newC b q) e) (P.sat.keep b o e),k.fr K P.fr,funFrames_at P.ff fun env he L hL o g hn=>(k.own L o (K.chainIn env he L hL) g).elim fun sl e=>⟨_,e,hn⟩⟩,?_,?_,?_,af.step.ext⟩
 ·intro b hb
  obtain ⟨o,g⟩:=Option.isSome_iff_exists.mp (af.step.live b hb)
  by_cases hq:b∈Γ.X.own
  ·obtain ⟨sl,e⟩:=k.own b o hq g;exact Option.isSome_iff_exists.mpr ⟨_,e⟩
  ·exact Option.isSome_iff_exists.mpr ⟨_,same b o hb hq g⟩
 ·exact fun b o g h1 h2=>same b o (by rw [g];rfl) h2 (af.step.same b o g h1 h2)
 ·exact fun b o hb g=>(af.step.prot b o hb g).elim fun sl e=>(k.own b _ (List.mem_append_right _ hb) e).elim fun sl e=>⟨sl,e⟩
theorem Stays.same {h0:Heap} {ex:List Addr} (z:Stays h (framesOf Γ.X.chain) ex h') (K:FxOk Γ.X) (hx:∀ b∈ex,h0.get? b=none) (b:Addr) (o:Obj) (e:(h0.get? b).isSome) (hb:b∉Γ.X.own) (g:h.get? b=some o):h'.get? b=some o :=
 z.rest b o (fun q=>hb (frames_own K q)) (fun q=>by rw [hx b q] at e;cases e) g
theorem After.junk {ex:List Addr} (K:FxOk Γ.X) (S0:∀ b o,Γ.G.B.get? b=some o->s.heap.get? b=some o) (af:After Γ s R s' R' st') (hx:∀ b∈ex,Junk Γ R' s.heap s'.heap b)
  (z:Stays s'.heap (framesOf Γ.X.chain) ex h'):After Γ s R { s' with heap:=h' } R' st' :=
 af.kept K S0 (.of af.pre.sat K (fun b hb=>(hx b hb).reg) (fun b hb=>(hx b hb).own) (fun b hb=>(hx b hb).obj) z) (z.same K fun b hb=>(hx b hb).new)
theorem Pre.junk {ex:List Addr} (P:Pre Γ s R st) (K:FxOk Γ.X) (hx:∀ b∈ex,Junk Γ R Γ.G.B s.heap b) (z:Stays s.heap (framesOf Γ.X.chain) ex h'):Pre Γ { s with heap:=h' } R st :=
 (After.junk (s:={ s with heap:=Γ.G.B }) (R:=R) K (fun _ _ e=>e) ⟨rfl,P,fun b e=>(Option.isSome_iff_exists.mp e).elim fun _ e=>Option.isSome_iff_exists.mpr ⟨_,P.sat.keep _ _ e⟩,fun b o e _ _=>P.sat.keep b o e,
  fun b o hb e=>some_ne (P.sat.newC b (List.mem_append_right _ hb)) e,⟨[],(List.append_nil _).symm,fun _ hp=>nomatch hp⟩⟩ hx z).pre
inductive Trc (h0 h:Heap) (e C:Addr) (v3:Value):Prop
 | mk (T:Addr) (oe:Obj) (vs:Array Value) (oT:Obj) (ts:Array Value) (n:h0.get? e=none) (nT:h0.get? T=none) (ne:T≠e) (g:h.get? e=some oe) (c:oe.cls=.ref C) (d:oe.data=.fields vs) (x:vs[1]?=some (.ref T)) (gT:h.get? T=some oT) (dT:oT.data=.fields ts) (x3:ts[3]?=some v3)
theorem Trc.exc {h0 h:Heap} {e C:Addr} {fl:Option Addr} {v:Value} (z:Trc h0 h e C v) (hv:v=.none\/∃ L,fl=some L/\v=rawInt L):ExcAt h0 h fl (.ref e) C:=by
 obtain ⟨T,oe,vs,oT,ts,n,nT,ne,g,c,d,x,gT,dT,x3⟩:=z
 exact ⟨e,oe,vs,rfl,n,g,c,d,(Array.getElem?_eq_some_iff.mp x).1,.tr T oT ts x ne nT gT dT (hv.elim (fun q=>.inl (q▸x3)) fun ⟨L,f,q⟩=>.inr ⟨L,f,q▸x3⟩)⟩
theorem junk_exc {b C:Addr} {o:Obj} {vs:Array Value} (P:Pre Γ s' R' st') {h0:Heap} (n:h0.get? b=none) (g:s'.heap.get? b=some o) (c:o.cls=.ref C) (d:o.data=.fields vs):Junk Γ R' h0 s'.heap b :=
 have f:=P.sat.free_fields g d
 ⟨n,f.1,f.2,o,g,fun v=>by cases v with
  | seq _ _ q=>exact nomatch d.symm.trans q
  | plain q=>exact nomatch d.symm.trans q
  | rng _ q _ _=>exact nomatch c.symm.trans q⟩
theorem junk_tr {b:Addr} {o:Obj} {vs:Array Value} (P:Pre Γ s' R' st') {h0:Heap} (n:h0.get? b=none) (g:s'.heap.get? b=some o) (d:o.data=.fields vs) (z:3 < vs.size):Junk Γ R' h0 s'.heap b :=
 have f:=P.sat.free_fields g d
 ⟨n,f.1,f.2,o,g,fun v=>by cases v with
  | seq _ _ q=>exact nomatch d.symm.trans q
  | plain q=>exact nomatch d.symm.trans q
  | rng us _ q y=>exact Nat.not_lt.mpr y ((by injection d.symm.trans q:vs=us)▸z)⟩
theorem junk2 {P:Addr->Prop} {a b:Addr} (ha:P a) (hb:P b):∀ c∈[a,b],P c:=fun c hc=>(List.mem_cons.mp hc).elim (fun q=>q▸ha) fun q=>List.mem_singleton.mp q▸hb
theorem junk1 {P:Addr->Prop} {a:Addr} (ha:P a):∀ c∈[a],P c:=fun c hc=>List.mem_singleton.mp hc▸ha
theorem trc_of {e C:Addr} {a0 fl:Value} {ex:List Addr} (K:FxOk Γ.X) (af:After Γ s R s' R' st') (n:s.heap.get? e=none) (hex:∀ b∈ex,s.heap.get? b=none)
  (ht:h'.TracedAtW (gone s'.heap (framesOf Γ.X.chain++ex)) e (.ref C) a0 fl) (hu:s'.heap.UpToSlots h'):Trc s.heap h' e C fl:=by
 obtain ⟨oe,vs,T,oT,ts,g1,g2,g3,g4,hnT,hTe,g5,g6,g7⟩:=ht
 refine ⟨T,oe,vs,oT,ts,n,?_,hTe,g1,g2.1,g3,g4,g5,g6,g7⟩
 by_cases hq:T∈framesOf Γ.X.chain
 ·obtain ⟨o,g,hf⟩:=af.pre.sat.frs T (frames_own K hq)
  obtain ⟨sl,e'⟩:=hu T o g hf.noFields
  exact absurd (show ({ o with slots:=sl }:Obj).data=.fields ts from inj_some g5 e'▸g6) (hf.noFields ts)
 ·by_cases hq':T∈ex
  ·exact hex T hq'
  ·rw [gone_get (fun q=>(List.mem_append.mp q).elim hq hq')] at hnT
   exact get_none af.step.live hnT
theorem note_station {x:Value} {C:Addr} {Q:Unit->Shared->Prop} {E:Value->Shared->Prop} (FX:FnFx Γ.X) (hA:Γ.A.frames=some Γ.X.chain) (K:FxOk Γ.X) (P₀:Pre Γ s R st) (af:After Γ s R s' R' st') (ex:ExcAt s.heap s'.heap Γ.X.env.frame x C)
  (hQ:∀ h' e,x=.ref e->After Γ s R { s' with heap:=h' } R' st'->Trc s.heap h' e C (rawInt Γ.X.env.locals)->Q () { s' with heap:=h' }):wpAny Γ.M Γ.A (noteFrame x Γ.X.env) Q E s':=by
 obtain ⟨outer,hch⟩:=FX.chain
 obtain ⟨e,oe,vs,rfl,he,g1,g2,g3,g4,g5⟩:=ex
 have P:=af.pre
 have h0:vs[0]?=some (vs[0]'(Nat.lt_of_succ_lt g4)):=Array.getElem?_eq_getElem (Nat.lt_of_succ_lt g4)
 have ff (l:List Addr):s'.heap.FunFrames (gone s'.heap (framesOf Γ.X.chain++l)) (Γ.X.env::outer):=hch▸funFrames_mono P.ff fun env hen L hL=>gone_none (List.mem_append_left _ (mem_framesOf.mpr ⟨env,hen,hL⟩))
 have gn {l:List Addr} {b:Addr} (hb:b∈l):(gone s'.heap (framesOf Γ.X.chain++l)).get? b=none:=gone_none (List.mem_append_right _ hb)
 have hA':=hch▸hA
 cases g5 with
 | no g5 =>
  unfold noteFrame
  simp only [FX.frame]
  refine wpAny_bind (wpAny_field g1 g3 g5 ?_)
  rw [if_neg (by decide)]
  exact wpAny_entryW (base:=gone s'.heap (framesOf Γ.X.chain++[e])) hA' (ff [e]) FX.frame g1 (fun b o q=>(gone_some q).2) (gn (.head _)) g3 g4 h0 fun h' hN =>
   hQ h' e rfl (After.junk (ex:=[e]) K P₀.sat.keep af (junk1 (junk_exc P he g1 g2 g3)) (Stays.of hN.1 hN.2.2.2)) (trc_of (ex:=[e]) K af he (junk1 he) (g2▸hN.2.2.1) hN.2.2.2)
 | tr T oT ts k1 k2 k3 k4 k5 k6 =>
  have tw (v:Value) (k:ts[3]?=some v) (l:List Addr) (hl:T∈l):s'.heap.TracedAtW (gone s'.heap (framesOf Γ.X.chain++l)) e (.ref C) (vs[0]'(Nat.lt_of_succ_lt g4)) v:=⟨oe,vs,T,oT,ts,g1,⟨g2,h0⟩,g3,k1,gn hl,k2,k4,k5,k⟩
  refine k6.elim (fun k6=>?_) fun q=>q.elim fun L q=>?_
  ·exact wpAny_noteFrame_onW (base:=gone s'.heap (framesOf Γ.X.chain++[e,T])) hA' (ff [e,T]) FX.frame (tw _ k6 _ (.tail _ (.head _))) (fun b o q=>(gone_some q).2) (gn (.head _)) fun h' hN =>
    hQ h' e rfl (After.junk (ex:=[e,T]) K P₀.sat.keep af (junk2 (junk_exc P he g1 g2 g3) (junk_tr P k3 k4 k5 (Array.getElem?_eq_some_iff.mp k6).1)) (Stays.of hN.1 hN.2.2.2)) (trc_of (ex:=[e,T]) K af he (junk2 he k3) hN.2.2.1 hN.2.2.2)
  ·obtain rfl:Γ.X.env.locals=L:=inj_some FX.frame q.1
   exact wpAny_noteFrame_againW FX.frame (tw _ q.2 _ (.head [])) (hQ s'.heap e rfl af ⟨T,oe,vs,oT,ts,he,k3,k2,g1,g2,g3,k1,k4,k5,q.2⟩)
theorem flight_station {e C:Addr} {v3:Value} {fl:Option Addr} {Q:Unit->Shared->Prop} {E:Value->Shared->Prop} (K:FxOk Γ.X) (P₀:Pre Γ s R st) (af:After Γ s R s' R' st') (ex:Trc s.heap s'.heap e C v3)
  (hQ:∀ h',After Γ s R { s' with heap:=h' } R' st'->Trc s.heap h' e C (fl.elim .none fun f=>rawInt f)->Q () { s' with heap:=h' }):wpAny Γ.M Γ.A (setFlight (.ref e) fl) Q E s':=by
 obtain ⟨T,oe,vs,oT,ts,he,hT,hTe,g1,g2,g3,g4,g5,g6,g7⟩:=ex
 have hsz:=(Array.getElem?_eq_some_iff.mp g7).1
 unfold setFlight
 refine wpAny_bind (wpAny_field g1 g3 g4 ?_)
 rw [if_pos (show (Value.ref T != Value.none)=true from by simp)]
 have hd:=Obj.data_mapFields g6 (·.setIfInBounds 3 (fl.elim Value.none fun f=>rawInt f))
 have other:∀ b,b≠T->(s'.heap.update T (Obj.mapFields (·.setIfInBounds 3 (fl.elim Value.none fun f=>rawInt f)))).get? b=s'.heap.get? b:=fun b hb=>Heap.get?_update_other _ _ (Ne.symm hb)
 refine wpAny_setField g5 g6 hsz (hQ _ (After.junk (ex:=[T]) K P₀.sat.keep af (junk1 (junk_tr af.pre hT g5 g6 hsz)) ⟨fun b o _ hb g=>?_,fun b o _ hn g=>⟨o.slots,?_⟩⟩) ?_)
 ·exact (other b (fun q=>hb (q▸.head _))).trans g
 ·exact (other b (fun q=>hn ts (inj_some (q▸g5) g▸g6))).trans g
 ·exact ⟨T,oe,vs,_,_,he,hT,hTe,(other e (Ne.symm hTe)).trans g1,g2,g3,g4,Heap.get?_update_self _ g5 (Obj.isFreed_of_fields hd),hd,by simp [hsz]⟩
theorem leave_station {x:Value} {C:Addr} {Q:Unit->Shared->Prop} {E:Value->Shared->Prop} (FX:FnFx Γ.X) (hA:Γ.A.frames=some Γ.X.chain) (K:FxOk Γ.X) (P₀:Pre Γ s R st) (af:After Γ s R s' R' st') (ex:ExcAt s.heap s'.heap Γ.X.env.frame x C)
  (hQ:∀ h',After Γ s R { s' with heap:=h' } R' st'->(∀ fl,ExcAt s.heap h' fl x C)->Q () { s' with heap:=h' }):wpAny Γ.M Γ.A (leaving Γ.X.env x) Q E s':=by
 unfold leaving
 refine wpAny_bind (note_station FX hA K P₀ af ex fun h1 e hx af1 tr1=>?_)
 subst hx
 exact flight_station (s':={ s' with heap:=h1 }) K P₀ af1 tr1 fun h2 af2 tr2=>hQ h2 af2 fun _=>tr2.exc (.inl rfl)
end
end Ab
end
section
namespace Ab
open PySem
noncomputable def okN (N:List String):Bool:=N.all fun x=>(Str.ofString x != "__debug__")&&(Str.ofString x != "__classdict__")
noncomputable def isTupE (e:AE):Bool:=match e with
 | .tup _ _=>true
 | _=>false
noncomputable def okT (L:Nat) (N:List String) (sc:Sc) (t:AT) (e:AE):Bool:=match t with
 | .t0 (.tup is p)=>okT0 N sc (.tup is p)&&!isTupE e&&!isCmp e
 | .t0 t=>okT0 N sc t
 | .attr o _ _=>okE L o N sc&&!isCmp e
 | .sub o i _=>okE L o N sc&&okE L i N sc&&!isCmp e
noncomputable def AFs.len:AFs->Nat
 | .nil=>0
 | .txt _ _ r=>r.len+1
 | .fmt _ _ r=>r.len+1
noncomputable def okFs (L:Nat) (N:List String) (sc:Sc):AFs->Bool
 | .nil=>true
 | .txt s _ r=>Nat.ble (Str.ofString s).length 1000&&okFs L N sc r
 | .fmt e _ r=>okE L e N sc&&okFs L N sc r
mutual
noncomputable def okS (L:Nat) (N:List String) (sc:Sc):AS->Bool
 | .expr e _=>okE L e N sc&&!isCmp e
 | .ret e _=>okE L e N sc
 | .ret0 _=>true
 | .asg t e _=>okE L e N sc&&okT L N sc t e
 | .aug i _ e _ _=>slotK N sc i .local&&okE L e N sc
 | .augAttr i _ _ e _ _ _=>slotK N sc i .local&&okE L e N sc
 | .ite c b o _=>okE L c N sc&&okSs L N sc b&&okSs L N sc o
 | .whl c b _=>okE L c N sc&&okSs L N sc b
 | .for t it b _=>okT0 N sc t&&okE L it N sc&&okSs L N sc b
 | .raise c s fs _ _ _ _=>isG sc c&&Option.casesOn s (Nat.ble 2 fs.len&&Nat.ble fs.len 20&&okFs L N sc fs) fun _=>Nat.beq fs.len 0
 | .try b hs _=>okSs L N sc b&&hs.all (fun h=>isG sc h.c&&okCst h.v)&&!hs.isEmpty
termination_by structural s=>s
noncomputable def okSs (L:Nat) (N:List String) (sc:Sc):ASs->Bool
 | .nil=>true
 | .cons s ss=>okS L N sc s&&okSs L N sc ss
termination_by structural ss=>ss
end
end Ab
end
section
namespace Ab
open PySem PySem.W PySem.Calls PyProof.Rows PyProof.Rows.TI
open PySem.Sem (wp)
section
variable {prog:Program} {w:World} {A:Around} {s:Shared}
theorem wpP_keep {α:Type} {M:Model} {vs:List Value} {m:Sem α} {Q:α->Shared->Prop} {E:Value->Shared->Prop} (h:wpP M A m Q E s):wpP M A (m.keep vs) Q E s :=
 fun Γ p hΓ hZ=>by rw [Sem.wp_keep];exact h Γ p hΓ hZ
theorem codeP_func {body:List Stmt} {env:Env} {Rr:Result->Shared->Prop}
  (h:wpP (model prog w) (A.deeper env) (execs body env) (fun f s'=>Rr (.ok (.ret (match f with|.ret v=>v|_=>.none))) s')
   (fun e s'=>wpP (model prog w) (A.deeper env) (leaving env e) (fun _ s''=>Rr (.error e) s'') (fun e' s''=>Rr (.error e') s'') s') s) :
  codeP (model prog w) A (.func body env) Rr s:=by
 refine codeP_of_tree ?_ rfl
 show wpP _ (A.deeper env) (do point;match ← (execs body env).onRaise (leaving env) with|.ret v=>ret v|_=>ret .none) _ _ s
 refine wpP_bind (wpP_of (wpAny_point (wpP_bind (wpP_onRaise (wpP_mono h (fun f s' h'=>?_) fun _ _ h'=>h')))))
 cases f <;> exact wpP_pure h'
theorem codeP_call_function {a:Addr} {args:Args} {o:Obj} {fd:FuncData} {body:List Stmt} {Rr:Result->Shared->Prop} (hroom:A.depth < recursionLimit)
  (ho:s.heap.get? a=some o)
  (hd':o.data=.func fd) (hco:fd.scope.isCoroutine=false) (hgen:fd.scope.isGenerator=false) (hbody:fd.body=.stmts body) (hcd:s.heap.CodeRec fd.code fd.qualname)
  (h:wpP (model prog w) A.in1 (bindArgs fd args) (fun binds s₁ =>
   wpP (model prog w) A.in1 (newFunctionEnv fd.scope fd.globals fd.closure binds (fd.qualname++".<locals>.") (some a) fd.code none fd.builtins)
    (fun env s₂=>s₂.heap.NoLimit/\codeP (model prog w) A (.func body env) Rr s₂) (fun e s'=>Rr (.error e) s') s₁) (fun e s'=>Rr (.error e) s') s) :
  codeP (model prog w) A (.call (.ref a) args) Rr s:=by
 refine codeP_of_tree ?_ rfl
 show wpP _ A.in1 (callAny (.ref a) args) _ _ s
 simp only [callAny]
 refine wpP_bind (wpP_of (wpAny_load ho ?_))
 obtain ⟨c,oc,vs,tq,hc,hoc,hdc,hq⟩:=hcd
 simp only [hd',callFunction,hco,hgen,hbody,hc]
 rw [hc] at h
 refine wpP_bind (m:=field (.ref c) 1) (wpP_of (wpAny_field hoc hdc hq (wpP_bind (wpP_pure ?_))))
 exact wpP_bind (wpP_mono h (fun binds s₁ h₁=>wpP_bind (wpP_mono h₁ (fun env s₂ h₂=>wpP_bind (wpP_of (wpAny_enterFrame h₂.1 hroom
  (wpP_pure (And.intro rfl h₂.2))))) fun _ _ h'=>h')) fun _ _ h'=>h')
theorem codeP_call_cells {Rr:Result->Shared->Prop} {a:Addr} {o:Obj} {fd:FuncData} {body:List Stmt} {args:Args} {binds:List (Str×Value)}
  (hroom:A.depth < recursionLimit) (ho:s.heap.get? a=some o) (hdata:o.data=.func fd) (hlim:s.heap.NoLimit) (hcd:s.heap.CodeRec fd.code fd.qualname)
  (hbody:fd.body=.stmts body) (hbind:BindsTo s fd args binds) (hclo:fd.closure=[])
  (hkind:∀ x∈binds,fd.scope.names.lookup x.1=some .local\/(fd.scope.names.lookup x.1=some .cell/\((cellsFrom (s.heap.objs.size+1) fd.scope.names []).lookup x.1).isSome=true))
  (h:∀ s₁,InCallC s (callEnvC fd s.heap.objs.size a).locals (bindL (callEnvC fd s.heap.objs.size a).kindOf binds fun _=>none) (callEnvC fd s.heap.objs.size a).cells
    (bindC (callEnvC fd s.heap.objs.size a).kindOf binds fun _=>none) s₁ →
   wpP (model prog w) (A.deeper (callEnvC fd s.heap.objs.size a)) (execs body (callEnvC fd s.heap.objs.size a)) (fun f s'=>Rr (.ok (.ret (match f with|.ret v=>v|_=>.none))) s')
    (fun e s'=>wpP (model prog w) (A.deeper (callEnvC fd s.heap.objs.size a)) (leaving (callEnvC fd s.heap.objs.size a) e) (fun _ s''=>Rr (.error e) s'') (fun e' s''=>Rr (.error e') s'') s') s₁)
  (hco:fd.scope.isCoroutine=false) (hgen:fd.scope.isGenerator=false) (hk:fd.scope.kind=.function) :
  codeP (model prog w) A (.call (.ref a) args) Rr s:=by
 refine codeP_call_function hroom ho hdata hco hgen hbody hcd (wpP_of (hbind _ _ _ _ ?_))
 rw [hclo]
 refine wpP_of (wpAny_newFunctionEnv_cells hk hkind fun env he s' x=>?_)
 subst he
 exact ⟨hlim.keeps x.toInCall.keep,codeP_func (h s' x)⟩
end
section
variable {α:Type} {x:Str}
theorem look_hit {v:α} {r:List (Str×α)}:((x,v)::r).lookup x=some v:=by rw [List.lookup_cons,beq_self_eq_true]
theorem look_miss {n:Str} {v:α} {r:List (Str×α)} (h:x≠n):((n,v)::r).lookup x=r.lookup x:=by rw [List.lookup_cons,beq_eq_false_iff_ne.mpr h]
theorem cells_cell (n:Nat) (name:Str) (r:List (Str×NameKind)) (acc:List (Str×Addr)):cellsFrom n ((name,.cell)::r) acc=cellsFrom (n+1) r ((name,n)::acc):=by rw [cellsFrom];rfl
theorem cells_other (n:Nat) (name:Str) (k:NameKind) (r:List (Str×NameKind)) (acc:List (Str×Addr)) (h:k≠.cell):cellsFrom n ((name,k)::r) acc=cellsFrom n r acc:=by
 rw [cellsFrom];exact if_neg fun q=>h (beq_iff_eq.mp q)
theorem lookup_cells (names:List (Str×NameKind)):∀ (n:Nat) (acc:List (Str×Addr)),((x,NameKind.cell)∈names\/(acc.lookup x).isSome)->((cellsFrom n names acc).lookup x).isSome:=by
 induction names with
 | nil=>exact fun n acc h=>h.elim (fun h=>nomatch h) id
 | cons p r ih =>
  obtain ⟨name,k⟩:=p
  intro n acc h
  by_cases hk:k=.cell
  ·subst hk
   rw [cells_cell]
   refine ih _ _ ?_
   by_cases hx:x=name
   ·subst hx;rw [look_hit];exact .inr rfl
   ·rw [look_miss hx]
    exact h.imp (fun h=>(List.mem_cons.mp h).elim (fun e=>absurd (congrArg Prod.fst e) hx) id) id
  ·rw [cells_other _ _ _ _ _ hk]
   exact ih _ _ (h.imp (fun h=>(List.mem_cons.mp h).elim (fun e=>absurd (congrArg Prod.snd e).symm hk) id) id)
theorem cellsFrom_nodup (names:List (Str×NameKind)):∀ (n:Nat) (acc:List (Str×Addr)),(names.map (·.1)++acc.map (·.1)).Nodup->((cellsFrom n names acc).map (·.1)).Nodup:=by
 induction names with
 | nil=>exact fun _ _ h=>h
 | cons p r ih =>
  obtain ⟨name,k⟩:=p
  intro n acc h
  by_cases hk:k=.cell
  ·subst hk
   rw [cells_cell]
   exact ih _ _ ((List.perm_middle.nodup_iff).mpr h)
  ·rw [cells_other _ _ _ _ _ hk]
   exact ih _ _ (List.nodup_cons.mp (show (name::(r.map (·.1)++acc.map (·.1))).Nodup from h)).2
theorem lookup_of_mem {c:α} {l:List (Str×α)} (hn:(l.map (·.1)).Nodup) (h:(x,c)∈l):l.lookup x=some c:=by
 induction l with
 | nil=>cases h
 | cons p r ih =>
  obtain ⟨k,v⟩:=p
  have hn:=List.nodup_cons.mp (show (k::r.map (·.1)).Nodup from hn)
  refine (List.mem_cons.mp h).elim (fun e=>by cases e;exact look_hit) fun h=>?_
  rw [look_miss fun q:x=k=>hn.1 (q▸List.mem_map.mpr ⟨(x,c),h,rfl⟩)]
  exact ih hn.2 h
variable {k:Str->Option NameKind} {v:Value}
theorem bindL_none {binds:List (Str×Value)}:∀ {m:Str->Option Value},(∀ p∈binds,p.1≠x)->bindL k binds m x=m x:=by
 induction binds with
 | nil=>exact fun _=>rfl
 | cons p r ih =>
  intro m h
  rw [bindL,ih fun p hp=>h p (.tail _ hp)]
  by_cases hk:k p.1=some .local
  ·rw [if_pos hk];exact if_neg fun q=>h p (.head _) q.symm
  ·rw [if_neg hk]
theorem bindC_none {binds:List (Str×Value)}:∀ {m:Str->Option Value},(∀ p∈binds,p.1≠x)->bindC k binds m x=m x:=by
 induction binds with
 | nil=>exact fun _=>rfl
 | cons p r ih =>
  intro m h
  rw [bindC,ih fun p hp=>h p (.tail _ hp)]
  by_cases hk:k p.1=some .local
  ·rw [if_pos hk]
  ·rw [if_neg hk];exact if_neg fun q=>h p (.head _) q.symm
theorem zip_ne {n:Str} {ns:List Str} {us:List Value} (hn:(n::ns).Nodup) (p:Str×Value) (hp:p∈ns.zip us):p.1≠n:=fun q=>(List.nodup_cons.mp hn).1 (q▸(List.of_mem_zip (show (p.1,p.2)∈_ from hp)).1)
theorem bindL_at (hk:k x=some .local) {names:List Str}:∀ {vals:List Value} {i:Nat} {m:Str->Option Value},names.Nodup->names[i]?=some x->vals[i]?=some v->bindL k (names.zip vals) m x=some v:=by
 induction names with
 | nil=>exact fun _ e _=>nomatch e
 | cons n ns ih =>
  intro vals i m hn e1 e2
  cases vals with
  | nil=>exact nomatch e2
  | cons u us =>
   rw [List.zip_cons_cons,bindL]
   cases i with
   | zero =>
    obtain rfl:n=x:=Option.some.inj e1
    obtain rfl:u=v:=Option.some.inj e2
    rw [bindL_none (zip_ne hn),if_pos hk,if_pos rfl]
   | succ i=>exact ih (List.nodup_cons.mp hn).2 e1 e2
theorem bindC_at (hk:k x=some .cell) {names:List Str}:∀ {vals:List Value} {i:Nat} {m:Str->Option Value},names.Nodup->names[i]?=some x->vals[i]?=some v->bindC k (names.zip vals) m x=some v:=by
 induction names with
 | nil=>exact fun _ e _=>nomatch e
 | cons n ns ih =>
  intro vals i m hn e1 e2
  cases vals with
  | nil=>exact nomatch e2
  | cons u us =>
   rw [List.zip_cons_cons,bindC]
   cases i with
   | zero =>
    obtain rfl:n=x:=Option.some.inj e1
    obtain rfl:u=v:=Option.some.inj e2
    rw [bindC_none (zip_ne hn),if_neg (by rw [hk];decide),if_pos rfl]
   | succ i=>exact ih (List.nodup_cons.mp hn).2 e1 e2
end
theorem nodup_ofString {l:List String} (h:l.Nodup):(l.map Str.ofString).Nodup:=List.pairwise_map.mpr (h.imp fun hne q=>hne (ofString_inj q))
inductive DefAt (B:Heap) (a:Addr) (d:FuncData):Prop
 | mk (o:Obj) (g:B.get? a=some o) (e:o.data=.func d)
inductive BindsOk (B:Heap) (fd:FD) (d:FuncData) (vals:List Value):Prop
 | mk (more:List Value) (r:∀ h R,VRels h R more (fd.dflts.drop (fd.dflts.length - (fd.np - vals.length)))) (b:∀ s:Shared,(∀ b o,B.get? b=some o->s.heap.get? b=some o)->BindsTo s d ⟨vals,[]⟩ (((fd.names.take fd.np).map Str.ofString).zip (vals++more)))
structure FnOk (B:Heap) (a:Addr) (fd:FD) (d:FuncData):Prop where
 obj:DefAt B a d
 code:B.CodeRec d.code d.qualname
 body:d.body=.stmts (toSs fd.line fd.names fd.body)
 co:d.scope.isCoroutine=false
 gen:d.scope.isGenerator=false
 kind:d.scope.kind=.function
 closure:d.closure=[]
 globals:d.globals=mainGlobals
 builtins:d.builtins=builtinsNs
 nodup:fd.names.Nodup
 np:fd.np<=fd.names.length
 params:∀ x∈fd.names.take fd.np,d.scope.names.lookup (Str.ofString x)=some .local\/d.scope.names.lookup (Str.ofString x)=some .cell
 keys:(d.scope.names.map (·.1)).Nodup
 noFree:∀ x∈d.scope.names,x.2≠.free
 binds:∀ vals:List Value,vals.length<=fd.np->fd.np<=vals.length + fd.dflts.length->BindsOk B fd d vals
def fxOf (d:FuncData) (names:List String) (L a:Addr) (X:Fx):Fx where
 env:=callEnvC d L a
 names:=names
 cur:=L::(cellsFrom (L+1) d.scope.names []).map (·.2)
 fs:=X.own
 chain:=callEnvC d L a::X.chain
structure FxEnter (B:Heap) (X:Fx):Prop where
 loc:X.env.locals∈X.own\/∃ o,B.get? X.env.locals=some o
 cells:∀ x c,X.env.cells.lookup x=some c->c∈X.own
 chainIn:∀ env∈X.chain,∀ L,env.frame=some L->L∈X.own
theorem FxOk.enter {B:Heap} {X:Fx} (K:FxOk X):FxEnter B X:=⟨.inl (List.mem_append_left _ K.loc),K.cells,K.chainIn⟩
theorem fxOf_ok {B:Heap} {X:Fx} {a:Addr} {fd:FD} {d:FuncData} {L:Addr} (F:FnOk B a fd d) (K:FxEnter B X) (ap:(cellsFrom (L+1) d.scope.names []).Pairwise fun x y=>x.2≠y.2) (ab:∀ n c,(n,c)∈cellsFrom (L+1) d.scope.names []->L < c):FxOk (fxOf d fd.names L a X) where
 kind:=F.kind
 globals:=F.globals
 builtins:=F.builtins
 nodup:=F.nodup
 loc:=.head _
 cells x c e:=List.mem_append_left _ (.tail _ (List.mem_map.mpr ⟨(x,c),mem_of_lookup e,rfl⟩))
 cellNe _ _ e:=Nat.ne_of_gt (ab _ _ (mem_of_lookup e))
 cellInj _ _ _ e1 e2:=name_of_addr ap (mem_of_lookup e1) (mem_of_lookup e2)
 chainIn env he L' hL:=(List.mem_cons.mp he).elim (fun q=>by subst q;cases hL;exact List.mem_append_left _ (.head _)) fun he=>List.mem_append_right _ (K.chainIn env he L' hL)
theorem fxOf_fn {X:Fx} {d:FuncData} {names:List String} {L a:Addr}:FnFx (fxOf d names L a X) :=
 ⟨⟨_,rfl⟩,rfl,fun x c _ e=>.tail _ (List.mem_map.mpr ⟨(x,c),mem_of_lookup e,rfl⟩)⟩
noncomputable abbrev Cx.enter (Γ:Cx) (d:FuncData) (names:List String) (L a:Addr):Cx:=⟨Γ.G,Γ.A.deeper (callEnvC d L a),fxOf d names L a Γ.X⟩
abbrev parBinds (fd:FD) (vals:List Value):List (Str×Value):=((fd.names.take fd.np).map Str.ofString).zip vals
abbrev Entered (s:Shared) (d:FuncData) (fd:FD) (a:Addr) (vals:List Value) (s':Shared):Prop :=
 InCallC s (callEnvC d s.heap.objs.size a).locals (bindL (callEnvC d s.heap.objs.size a).kindOf (parBinds fd vals) fun _=>none) (callEnvC d s.heap.objs.size a).cells (bindC (callEnvC d s.heap.objs.size a).kindOf (parBinds fd vals) fun _=>none) s'
section
variable {Γ:Cx} {s s':Shared} {R R':Reg} {st st':St} {a:Addr} {fd:FD} {d:FuncData} {vals:List Value} {as:List AV}
theorem entered_fresh (I:Entered s d fd a vals s'):∀ b∈(fxOf d fd.names s.heap.objs.size a Γ.X).cur,s.heap.get? b=none:=fun b hb =>
 (List.mem_cons.mp hb).elim (fun q=>q▸get_size_none _) fun hb=>(List.mem_map.mp hb).elim fun p q=>q.2▸Heap.get?_none_of_le (Nat.le_of_lt (I.above p.1 p.2 q.1))
theorem entered_cell (F:FnOk Γ.G.B a fd d) (I:Entered s d fd a vals s') {n:Str} {c:Addr} (hm:(n,c)∈cellsFrom (s.heap.objs.size+1) d.scope.names []):∃ o,s'.heap.get? c=some o/\o.data=.cell (bindC (callEnvC d s.heap.objs.size a).kindOf (parBinds fd vals) (fun _=>none) n) :=
 I.cell n c (lookup_of_mem (cellsFrom_nodup _ _ _ (by rw [List.map_nil,List.append_nil];exact F.keys)) hm)
theorem entered_own (F:FnOk Γ.G.B a fd d) (I:Entered s d fd a vals s'):∀ b∈(fxOf d fd.names s.heap.objs.size a Γ.X).cur,Owned s'.heap b:=fun b hb =>
 (List.mem_cons.mp hb).elim (fun q=>q▸ns_owned I.toInCall.ns) fun hb=>(List.mem_map.mp hb).elim fun p q=>(entered_cell F I q.1).elim fun o z=>⟨o,q.2▸z.1,.inr ⟨_,z.2⟩⟩
theorem entered_nodup (I:Entered s d fd a vals s'):(fxOf d fd.names s.heap.objs.size a Γ.X).cur.Nodup :=
 List.nodup_cons.mpr ⟨fun q=>(List.mem_map.mp q).elim fun p z=>Nat.lt_irrefl _ (z.2▸I.above p.1 p.2 z.1:s.heap.objs.size < s.heap.objs.size),List.pairwise_map.mpr I.apart⟩
theorem frame_lt {n m i:Nat} {as:List AV} {x:AV} (h:as.length=n) (e:(as.map some++List.replicate m (none:Option AV))[i]?=some (some x)):as[i]?=some x/\i < n:=by
 by_cases hi:i < as.length
 ·rw [List.getElem?_append_left (by rw [List.length_map];exact hi),List.getElem?_map] at e
  obtain ⟨y,e4,e5⟩:=Option.map_eq_some_iff.mp e
  exact ⟨Option.some.inj e5▸e4,h▸hi⟩
 ·rw [List.getElem?_append_right (by rw [List.length_map];exact Nat.not_lt.mp hi),List.getElem?_replicate] at e
  by_cases q:i - (as.map some).length < m
  ·rw [if_pos q] at e;cases e
  ·rw [if_neg q] at e;cases e
theorem name_at {n i:Nat} {x:String} (hi:i < n) (e:fd.names[i]?=some x):((fd.names.take n).map Str.ofString)[i]?=some (Str.ofString x):=by rw [List.getElem?_map,List.getElem?_take,if_pos hi,e];rfl
theorem Pre.enter (P:Pre Γ s R st) (F:FnOk Γ.G.B a fd d) (hv:VRels s.heap R vals as) (hn:as.length=fd.np) (I:Entered s d fd a vals s') :
  Pre (Γ.enter d fd.names s.heap.objs.size a) s' R ⟨as.map some++List.replicate (fd.names.length - fd.np) none,st.H⟩:=by
 have keep:=I.toInCall.keep
 have k9:Keeps9 s.heap R s'.heap R:=keeps9_h keep
 have fresh:=entered_fresh (Γ:=Γ) I
 have gs:s'.gens=#[]:=by obtain ⟨h',tk,e⟩:=I.toInCall.same;rw [e];exact P.gens
 have S1:=P.sat.keepAll keep
 have nd:((fd.names.take fd.np).map Str.ofString).Nodup:=nodup_ofString (F.nodup.sublist (List.take_sublist _ _))
 refine ⟨gs,⟨S1.keep,S1.newR,fun b hb=>?_,?_,S1.inj,S1.len,S1.objs,fun b hb=>?_⟩,⟨?_,⟨_,I.toInCall.ns,fun i x v e1 e2 e3=>?_⟩,fun i x e1 e2=>?_⟩,?_⟩
 ·exact (List.mem_append.mp hb).elim (fun hb=>none_B P.sat (fresh b hb)) (P.sat.newC b)
 ·have hd:=List.nodup_append.mp P.sat.nodup
  refine List.nodup_append.mpr ⟨hd.1,List.nodup_append.mpr ⟨entered_nodup I,hd.2.1,fun b hb c hc q=>?_⟩,fun b hb c hc=>?_⟩
  ·exact (P.sat.frs c hc).casesOn fun o g _=>some_ne (fresh b hb) (q▸g)
  ·exact (List.mem_append.mp hc).elim (fun hc q=>(P.sat.regAt hb).casesOn fun o g _=>some_ne (fresh c hc) (q▸g)) fun hc=>hd.2.2 b hb c hc
 ·exact (List.mem_append.mp hb).elim (entered_own F I b) (S1.frs b)
 ·have h1:=F.np
  show (as.map some++List.replicate (fd.names.length - fd.np) none).length=fd.names.length
  rw [List.length_append,List.length_map,List.length_replicate,hn];omega
 ·obtain ⟨e4,hi⟩:=frame_lt hn e2
  obtain ⟨u,e5,e6⟩:=hv.get e4
  exact ⟨u,bindL_at (i:=i) e3 nd (name_at hi e1) e5,e6.mono k9⟩
 ·have e2:d.scope.names.lookup (Str.ofString x)=some .cell:=e2.elim id fun e2=>absurd rfl (F.noFree _ (mem_of_lookup e2))
  obtain ⟨c,hc⟩:=Option.isSome_iff_exists.mp (lookup_cells d.scope.names (s.heap.objs.size+1) [] (.inl (mem_of_lookup e2)))
  obtain ⟨o,g,hd⟩:=I.cell _ c hc
  refine ⟨c,o,_,hc,g,hd,fun v e3=>?_⟩
  obtain ⟨e4,hi⟩:=frame_lt hn e3
  obtain ⟨u,e5,e6⟩:=hv.get e4
  exact ⟨u,bindC_at (i:=i) e2 nd (name_at hi e1) e5,e6.mono k9⟩
 ·exact Heap.FunFrames.cons (by show d.scope.kind≠.module;rw [F.kind];decide) rfl I.toInCall.ns (none_B P.sat (get_size_none _)) (P.ff.of_keeps fun b o e _=>⟨o,keep b o e,rfl⟩)
theorem After.leaveG {A':Around} {X':Fx} {s1:Shared} {R1:Reg} {st1:St} (P:Pre Γ s R st) (K:FxEnter Γ.G.B Γ.X) (hfs:X'.fs=Γ.X.own) (hch:∀ h:Heap,h.FunFrames Γ.G.B X'.chain->h.FunFrames Γ.G.B Γ.X.chain) (fresh:∀ b∈X'.cur,s.heap.get? b=none)
  (keep:∀ b o,s.heap.get? b=some o->s1.heap.get? b=some o) (hs:s1={ s with heap:=s1.heap,toks:=s1.toks }) (new1:Reg) (hR:R1=R++new1) (hn1:∀ p∈new1,s.heap.get? p.2=none) (P1:Pre ⟨Γ.G,A',X'⟩ s1 R1 st1)
  (af:After ⟨Γ.G,A',X'⟩ s1 R1 s' R' st'):After Γ s R s' R' ⟨st.fr,st'.H⟩:=by
 subst hR
 have k9:Keeps9 s.heap R s'.heap R':=by
  have k1:Keeps9 s.heap R s1.heap (R++new1):=keeps9_app keep
  have k2:=af.keeps9 P1
  exact ⟨fun a vs t=>k2.tup _ _ (k1.tup _ _ t),fun a x y z t u v r=>k2.rng _ _ _ _ _ _ _ (k1.rng _ _ _ _ _ _ _ r),fun l p e=>k2.reg _ _ (k1.reg _ _ e)⟩
 have t:=af.step
 have old:∀ b o,b∈Γ.X.own->s.heap.get? b=some o->∃ sl,s'.heap.get? b=some { o with slots:=sl }:=fun b o hb g=>t.prot b o (hfs▸hb) (keep b o g)
 have up:∀ b,b∈Γ.X.own->b∈X'.own:=fun b hb=>List.mem_append_right _ (hfs▸hb)
 have alive:∀ b,(s.heap.get? b).isSome->(s1.heap.get? b).isSome:=fun b z=>by obtain ⟨o,g⟩:=Option.isSome_iff_exists.mp z;rw [keep b o g];rfl
 have q:=af.pre.sat
 refine ⟨?_,⟨af.pre.gens,⟨q.keep,q.newR,fun b hb=>q.newC b (up b hb),?_,q.inj,q.len,q.objs,fun b hb=>q.frs b (up b hb)⟩,⟨P.fr.len,?_,fun i n e1 e2=>?_⟩,hch _ af.pre.ff⟩,?_⟩
 ·rw [af.eq,hs]
 ·have n:=List.nodup_append.mp q.nodup
  exact List.nodup_append.mpr ⟨n.1,hfs▸(List.nodup_append.mp n.2.1).2.1,fun b hb c hc=>n.2.2 b hb c (up c hc)⟩
 ·obtain ⟨m,⟨o,es,ep,g,z⟩,hv⟩:=P.fr.ns
  obtain ⟨sl,e⟩:∃ sl,s'.heap.get? Γ.X.env.locals=some { o with slots:=sl }:=K.loc.elim (fun k=>old _ o k g) fun ⟨o',k⟩=>⟨o.slots,inj_some (P.sat.keep _ _ k) g▸q.keep _ _ k⟩
  exact ⟨m,⟨_,es,ep,e,z⟩,fun i n a e1 e2 e3=>(hv i n a e1 e2 e3).elim fun v q=>⟨v,q.1,q.2.mono k9⟩⟩
 ·obtain ⟨c,o,ov,e3,e4,e5,e6⟩:=P.fr.cel i n e1 e2
  obtain ⟨sl,e⟩:=old _ o (K.cells _ _ e3) e4
  exact ⟨c,_,ov,e3,e,e5,fun a ha=>(e6 a ha).elim fun v q=>⟨v,q.1,q.2.mono k9⟩⟩
 ·refine ⟨fun b hb=>t.live b (alive b hb),fun b o g h1 h2=>?_,fun b o hb g=>t.prot b o (hfs▸List.mem_append_right _ hb) (keep b o g),?_⟩
  ·refine t.same b o (keep b o g) (fun z=>?_) fun z=>(List.mem_append.mp z).elim (fun z=>some_ne (fresh b z) g) (hfs▸h2)
   rw [List.map_append] at z
   exact (List.mem_append.mp z).elim h1 fun z=>(List.mem_map.mp z).elim fun p z=>some_ne (hn1 p z.1) (z.2▸g)
  ·obtain ⟨new,e,hn⟩:=t.ext
   exact ⟨new1++new,by rw [e,List.append_assoc],fun p hp=>(List.mem_append.mp hp).elim (hn1 p) fun hp=>get_none alive (hn p hp)⟩
theorem After.leave {s1:Shared} {st1:St} (P:Pre Γ s R st) (K:FxEnter Γ.G.B Γ.X) (I:Entered s d fd a vals s1) (P1:Pre (Γ.enter d fd.names s.heap.objs.size a) s1 R st1)
  (af:After (Γ.enter d fd.names s.heap.objs.size a) s1 R s' R' st'):After Γ s R s' R' ⟨st.fr,st'.H⟩ :=
 After.leaveG P K rfl (fun h (q:h.FunFrames Γ.G.B (callEnvC d s.heap.objs.size a::Γ.X.chain))=>q.2.2) (entered_fresh (Γ:=Γ) I) I.toInCall.keep (by obtain ⟨h',tk,e⟩:=I.toInCall.same;rw [e]) [] (List.append_nil _).symm (fun _ h=>nomatch h) P1 af
end
end Ab
end
section
namespace Ab
open PySem PySem.W PySem.Calls PyProof.Rows PyProof.Rows.TI
section
variable {Γ Δ:Cx} {s s':Shared} {R R':Reg} {st:St}
theorem Pre.around (P:Pre Γ s R st) (g:Δ.G=Γ.G) (x:Δ.X=Γ.X):Pre Δ s R st:=by
 obtain ⟨G,A,X⟩:=Δ
 cases g;cases x
 exact ⟨P.gens,⟨P.sat.keep,P.sat.newR,P.sat.newC,P.sat.nodup,P.sat.inj,P.sat.len,P.sat.objs,P.sat.frs⟩,P.fr,P.ff⟩
theorem After.around (a:After Γ s R s' R' st) (g:Δ.G=Γ.G) (x:Δ.X=Γ.X):After Δ s R s' R' st:=⟨a.eq,a.pre.around g x,x▸a.step⟩
end
inductive FlRel (h:Heap) (R:Reg):Flow->Fl->Prop where
 | next:FlRel h R .next .next
 | ret {v:Value} {a:AV}:VRel h R v a->FlRel h R (.ret v) (.ret a)
def Back (Γ:Cx) (s:Shared) (R:Reg) (Q:KV) (E:KX) (x:Result) (s':Shared):Prop:=match x with
 | .ok (.ret v)=>Lift Γ VRel s R Q v s'
 | .ok _=>False
 | .error e=>LiftE Γ s R E e s'
def CodeSim (Γ:Cx) (c:Code) (p:PT AV) (s:Shared) (R:Reg):Prop:=∀ Q E,p Q E->codeP Γ.M Γ.A c (Back Γ s R Q E) s
structure RoomD (n:Nat) (A:Around) (X:Fx):Prop where
 handled:A.handled=none
 guards:A.guards=some []
 frames:A.frames=some X.chain
 depth:A.depth + 2 * n + 3 < recursionLimit
 units:A.units+10 * n + 295 < cLine
structure RoomOk (n:Nat) (A:Around) (X:Fx):Prop where
 handled:A.handled=none
 guards:A.guards=some []
 frames:A.frames=some X.chain
 depth:A.depth + 2 * n + 4 < recursionLimit
 units:A.units+10 * n + 300 < cLine
section
variable {n:Nat} {A:Around} {X:Fx}
theorem RoomOk.d (r:RoomOk n A X):RoomD n A X:=⟨r.handled,r.guards,r.frames,Nat.lt_of_succ_lt r.depth,Nat.lt_of_le_of_lt (Nat.add_le_add_left (by decide) _) r.units⟩
theorem typeCall_weight (C:Addr) (rest:List Value):(Code.builtin "type.__call__" ⟨.ref C::rest,[]⟩).weight=1:=by kernel_rfl
theorem typeCall_units (C:Addr) (rest:List Value):(Code.builtin "type.__call__" ⟨.ref C::rest,[]⟩).cUnits=1:=by kernel_rfl
theorem typeCall_guards (C:Addr) (rest:List Value):(Code.builtin "type.__call__" ⟨.ref C::rest,[]⟩).guards=[]:=by kernel_rfl
theorem fill_len {a n d:Nat} (h1:a<=n) (h2:n<=a + d):a + (d - (d - (n - a)))=n:=by omega
theorem RoomOk.making {C:Addr} {rest:List Value} (r:RoomOk n A X):RoomD n (A.under (.builtin "type.__call__" ⟨.ref C::rest,[]⟩)) X:=by
 refine ⟨r.handled,?_,r.frames,?_,?_⟩
 ·simp only [Around.under,typeCall_guards,pushGuards];exact r.guards
 ·have h:=r.depth
  show A.depth + Code.weight _ + 2 * n + 3 < _
  rw [typeCall_weight]
  generalize recursionLimit=k at h ⊢
  generalize A.depth=d at h ⊢
  omega
 ·have h:=r.units
  show A.units + Code.cUnits _+10 * n + 295 < _
  rw [typeCall_units]
  generalize cLine=k at h ⊢
  generalize A.units=d at h ⊢
  omega
theorem RoomD.deeper {env:Env} {X':Fx} (r:RoomD (n+1) A X) (hc:X'.chain=env::X.chain):RoomOk n (A.deeper env) X':=by
 have h1:=r.depth
 have h2:=r.units
 refine ⟨r.handled,r.guards,?_,?_,?_⟩
 ·rw [hc];exact Around.frames_deeper r.frames
 ·show A.depth+1 + 2 * n + 4 < _;omega
 ·show A.units + 3+10 * n + 300 < _;omega
end
structure FnGood (G:Gx) (c f:Nat) (fd:FD):Prop where
 ok:∃ d,FnOk G.B (fa c f) fd d/\okSs fd.line fd.names d.scope.names fd.body=true/\okN fd.names=true
 keep:keepIn G.K (.ref (fa c f))=true
structure ClsOk (G:Gx) (c:Nat):Prop where
 fn:∃ fd,T.fn c 1=some fd
 g:G.mg (Str.ofString (nm c))=some (.ref (CA c))
 makes:makesIn G.K (CA c)=true
 find:findIn G.K (.ref (CA c)) "__init__"=some (some (.ref (fa c 1)))
 ty:typeIn G.K (.ref (fa c 1))=some (.type "function")
 keep:keepIn G.K (.ref (CA c))=true
structure MethOk (K:Frag) (c m:Nat):Prop where
 lt:m < NM
 get:plainGet K (CA c) (Str.ofString (nm m))=true
 find:findIn K (.ref (CA c)) (Str.ofString (nm m))=some (some (.ref (fa c m)))
 isFn:isFn K (.ref (fa c m))=true
structure PrimOk (G:Gx) (x:String) (v:Value):Prop where
 g:G.mg (Str.ofString x)=none
 b:G.mb (Str.ofString x)=some v
structure ExcOk (B:Heap) (C:Addr):Prop where
 ex:∃ nm q N bs bm hdct sn sub ab col dd k0 k1 k2 k3 k5 mN,B.get? C=some (excClassObj nm q C N bs bm hdct sn sub ab col dd k0 k1 k2 k3 k5 "Exception.__new__")/\B.Ns N mN/\mN "__init__"=none ∧
  OwnTail B [.type "Exception",.type "BaseException",.type "object"] bm/\bm.contains (.type "BaseException")=true
structure ExcGood (G:Gx) (c:Nat):Prop where
 g:G.mg (Str.ofString (nm c))=some (.ref (CA c))
 ok:ExcOk G.B (CA c)
structure Stat (G:Gx):Prop where
 frag:G.K.In G.B
 g:G.B.Ns mainGlobals G.mg
 b:G.B.Ns builtinsNs G.mb
 lim:G.B.NoLimit
 glb:∀ x i,T.glb x=some i->∃ t,G.mg (Str.ofString (nm x))=some (.int i t)
 fn:∀ c f fd,T.fn c f=some fd->FnGood G c f fd
 fnG:∀ f fd,T.fn 0 f=some fd->G.mg (Str.ofString (nm f))=some (.ref (fa 0 f))
 prim:∀ p:Prim,PrimOk G p.name (primVal p)
 isb:PrimOk G "isinstance" (.builtin "isinstance")
 cls:∀ c,T.cls c=true->ClsOk G c
 meth:∀ c m fd,T.fn c m=some fd->c≠0->MethOk G.K c m
 field:∀ c a,T.field c a=true->FieldOk G.K (CA c) a
 sub:∀ a b,T.isExc a=true->T.isExc b=true->exmOne G.K (.ref (CA a)) (.ref (CA b))=some (T.sub a b)
 exc:∀ c,T.isExc c=true->ExcGood G c
def CallOk (G:Gx) (n:Nat) (C:Call):Prop:=∀ A X s R st c f fd as vals,T.fn c f=some fd->RoomD n A X->FxOk X->Pre ⟨G,A,X⟩ s R st->VRels s.heap R vals as->CodeSim ⟨G,A,X⟩ (.call (.ref (fa c f)) ⟨vals,[]⟩) (fun Q E=>callK C c f as st Q E) s R
structure Ok (Γ:Cx) (n:Nat) (C:Call):Prop where
 st:Stat Γ.G
 call:CallOk Γ.G n C
 room:RoomOk n Γ.A Γ.X
 fx:FxOk Γ.X
 nms:okN Γ.X.names=true
section
variable {Γ:Cx} {s s':Shared} {R R':Reg} {st st':St} {C:Call} {n:Nat}
theorem CodeSim.call {f:Value} {vals:List Value} {p:PT AV} (h:CodeSim Γ (.call f ⟨vals,[]⟩) p s R):SimAt Γ VRel (PySem.call f vals) p s R:=fun Q E hp=>wpP_call (h Q E hp)
theorem sim_callF {a:Addr} {fd:FD} {d:FuncData} {vals:List Value} {as:List AV} (room:RoomD (n+1) Γ.A Γ.X) (hlim:Γ.G.B.NoLimit) (P:Pre Γ s R st) (K:FxEnter Γ.G.B Γ.X) (F:FnOk Γ.G.B a fd d) (hv:VRels s.heap R vals as)
  (hbody:∀ A' X' s' R' st',RoomOk n A' X'->FxOk X'->FnFx X'->Pre ⟨Γ.G,A',X'⟩ s' R' st'->X'.names=fd.names->X'.env.scope=d.scope->SimAt ⟨Γ.G,A',X'⟩ FlRel (execs (toSs fd.line X'.names fd.body) X'.env) (vSs T C fd.body st') s' R') :
  CodeSim Γ (.call (.ref a) ⟨vals,[]⟩) (fun Q E=>vCall T C fd as st.H (fun v H=>Q v ⟨st.fr,H⟩) fun e H=>E e ⟨st.fr,H⟩) s R:=fun Q E hp=>by
 obtain ⟨hlen,hp⟩:=hp
 obtain ⟨h1,h2⟩:=Bool.and_eq_true_iff.mp hlen
 have h1:=Nat.le_of_ble_eq_true h1
 have h2:=Nat.le_of_ble_eq_true h2
 obtain ⟨more,hm,hb⟩:=F.binds vals (hv.len▸h1) (hv.len▸h2)
 rw [hv.len] at hm
 have hv':VRels s.heap R (vals++more) (as++fd.dflts.drop (fd.dflts.length - (fd.np - as.length))):=hv.app (hm _ _)
 have hlen':(as++fd.dflts.drop (fd.dflts.length - (fd.np - as.length))).length=fd.np:=by
  rw [List.length_append,List.length_drop];exact fill_len h1 h2
 obtain ⟨o,ho,hd⟩:=F.obj
 have hkind:∀ x∈parBinds fd (vals++more),d.scope.names.lookup x.1=some .local\/(d.scope.names.lookup x.1=some .cell/\((cellsFrom (s.heap.objs.size+1) d.scope.names []).lookup x.1).isSome=true):=fun x hx=>by
  obtain ⟨y,hy,e⟩:=List.mem_map.mp (List.of_mem_zip (show (x.1,x.2)∈_ from hx)).1
  exact e▸(F.params y hy).imp id fun q=>⟨q,lookup_cells _ _ _ (.inl (mem_of_lookup q))⟩
 refine codeP_call_cells (Nat.lt_of_le_of_lt (Nat.le_trans (Nat.le_add_right _ _) (Nat.le_add_right _ _)) room.depth) (P.sat.keep _ _ ho) hd (hlim.keeps P.sat.keep) (F.code.keeps P.sat.keep) F.body (hb s P.sat.keep) F.closure hkind (fun s₁ I=>?_) F.co F.gen F.kind
 have P1:=P.enter F hv' hlen' I
 have KX:FxOk (fxOf d fd.names s.heap.objs.size a Γ.X):=fxOf_ok F K I.apart I.above
 have hr':RoomOk n (Γ.A.deeper (callEnvC d s.heap.objs.size a)) (fxOf d fd.names s.heap.objs.size a Γ.X):=room.deeper rfl
 refine wpP_mono (hbody _ (fxOf d fd.names s.heap.objs.size a Γ.X) s₁ R _ hr' KX fxOf_fn P1 rfl rfl _ _ hp) ?_ ?_
 ·rintro f s2 ⟨fl,st2,R2,hq,af,rl⟩
  have af':=After.leave P K I P1 af
  cases rl with
  | ret r=>exact ⟨_,_,R2,hq,af',r⟩
  | next=>exact ⟨_,_,R2,hq,af',.none⟩
 ·rintro x s2 ⟨c,st2,R2,hq,af,ex⟩
  exact wpP_of (leave_station (Γ:=Γ.enter d fd.names s.heap.objs.size a) fxOf_fn hr'.frames KX P1 af ex fun h' af2 ex2 =>
   ⟨c,_,R2,hq,After.leave P K I P1 af2,(ex2 _).mono fun b hb=>by obtain ⟨o,g⟩:=Option.isSome_iff_exists.mp hb;rw [I.toInCall.keep b o g];rfl⟩)
theorem star_cons {L:Nat} {N:List String} {e:AE} {es:List Expr} {env:Env}:starEach (toE L e N::es) env=(false,eval (toE L e N) env)::starEach es env:=by cases e <;> rfl
theorem len_nil:AEs.len .nil=0:=rfl
theorem len_cons {e:AE} {es:AEs}:AEs.len (.cons e es)=AEs.len es+1:=rfl
structure Plain (l:List (Bool×Sem Value)) (n:Nat):Prop where
 any:l.any (·.1)=false
 all:l.all (fun x=>!x.1)=true
 len:l.length=n
theorem plain_es {L:Nat} {N:List String} {env:Env} {pos:Pos}:∀ es:AEs,Plain (backTo pos (starEach (toEs L es N) env)) es.len:=fun es=>by
 induction es using AEs.rec (motive_1:=fun _=>True) with
 | nil=>exact ⟨rfl,rfl,rfl⟩
 | cons e es _ ih=>exact (star_cons (L:=L) (N:=N) (e:=e) (es:=toEs L es N) (env:=env)).symm▸⟨ih.any,ih.all,congrArg (·+1) ih.len⟩
 | _=>trivial
theorem sim_spliced {α:Type} {rel:Rl (List Value) α} {t:Sem Value} {l:List (Bool×Sem Value)} {p:PT AV} {q:AV->St->PT α} (h1:SimAt Γ VRel t p s R)
  (h2:∀ v s1 a st1 R1,After Γ s R s1 R1 st1->VRel s1.heap R1 v a->SimAt Γ rel (PySem.holding [v] (spliced l) >>= fun vs=>pure (v::vs)) (q a st1) s1 R1) :
  SimAt Γ rel (spliced ((false,t)::l)) (fun Q E=>p (fun a st=>q a st Q E) E) s R:=by
 rw [spliced]
 refine SimAt.bind (g:=fun a st=>q a st) h1 fun v s1 a st1 R1 af1 r1=>?_
 simp only [Bool.false_eq_true,if_false]
 exact SimAt.pureBind (h2 v s1 a st1 R1 af1 r1)
structure ArgsRel {α:Type} (rel:Rl (List Value) α) (h:Heap) (R:Reg) (x:Args) (as:α):Prop where
 kw:x.kw=[]
 pos:rel h R x.pos as
section
variable {α:Type} {rel:Rl (List Value) α} {f:Value} {l:List (Bool×Sem Value)} {p:PT α}
theorem sim_evalArgs (hst:l.any (·.1)=false) (h:SimAt Γ rel (spliced l) p s R):SimAt Γ (ArgsRel rel) (evalArgs f true l []) p s R:=by
 have key:evalArgs f true l []=(spliced l >>= fun pos=>PySem.holding (pos++[]) (pure ⟨pos,[]⟩)):=by
  unfold evalArgs
  match l,hst with
  | [],_=>rfl
  | (false,x)::rest,_=>rfl
 rw [key]
 exact fun Q E hp=>wpP_bind (wpP_mono (h Q E hp) (fun vs s1 x=>wpP_holding (wpP_pure (x.casesOn fun a st R h af rl=>⟨a,st,R,h,af,rfl,rl⟩))) fun _ _ x=>x)
structure Kept1 (G:Gx) (f:Value):Prop where
 k:∀ (prog:Program) (w:World) (h:Heap),G.K.In h->∃ k,(k=Keeper.frame\/k=Keeper.machine)/\Looks (model prog w) h (keeperOf f) k
theorem sim_callWith {pos:Pos} {first:List Value} {q:α->St->PT AV} (hst:l.any (·.1)=false) (hK:Γ.G.K.In Γ.G.B) (hk:Kept1 Γ.G f) (ha:SimAt Γ rel (spliced l) p s R)
  (hc:∀ vs as s1 st1 R1,After Γ s R s1 R1 st1->rel s1.heap R1 vs as->SimAt Γ VRel (call f (first++vs)) (q as st1) s1 R1) :
  SimAt Γ VRel (callWith pos f first l []) (fun Q E=>p (fun as st=>q as st Q E) E) s R:=by
 unfold callWith
 refine SimAt.bind (g:=fun as st=>q as st) (sim_evalArgs hst ha).holding fun a s1 as st1 R1 af rl=>SimAt.standAt ?_
 obtain ⟨ap,akw⟩:=a
 obtain ⟨hkw,rl⟩:=rl
 obtain rfl:akw=[]:=hkw
 obtain ⟨k,hk',L⟩:=hk.k Γ.G.prog Γ.G.w _ (inB hK af.pre)
 have hcall:=hc ap as s1 st1 R1 af rl
 have tail:∀ {t:Sem Value},SimAt Γ VRel t (q as st1) s1 R1->SimAt Γ VRel (t >>= fun r=>PySem.holding [r] point >>= fun _=>pure r) (q as st1) s1 R1:=fun ht =>
  SimAt.skipPure (k:=fun r=>PySem.holding [r] point) (fun v s h=>wpAny_holding (wpAny_point h)) ht
 have marked (mk:Value):SimAt Γ VRel (callMarked mk f (first++ap) []) (q as st1) s1 R1:=fun Q E hp=>wpP_keep (hcall Q E hp)
 have hp:(l.any (·.1) || ([]:List (Option Str×Sem Value)).any (·.1.isNone))=false:=by rw [hst];rfl
 simp only [hp]
 refine fun Q E h=>wpP_bind (wpP_of (L.here ?_))
 rcases hk' with rfl|rfl
 ·dsimp only
  split
  ·exact tail hcall Q E h
  ·exact tail (marked _) Q E h
 ·exact tail hcall Q E h
end
theorem kept_fn {G:Gx} {f:Value} (h:keepIn G.K f=true):Kept1 G f:=⟨fun _ _ _ X=>looks_keep h X⟩
theorem kept_builtin {G:Gx} {id:String}:Kept1 G (.builtin id):=⟨fun _ _ _ _=>⟨.machine,.inr rfl,Looks.of_pure rfl⟩⟩
theorem kept_type {G:Gx} {id:String}:Kept1 G (.type id):=⟨fun _ _ _ _=>⟨.machine,.inr rfl,Looks.of_pure rfl⟩⟩
theorem kept_prim {G:Gx} (p:Prim):Kept1 G (primVal p):=by cases p <;> first|exact kept_builtin|exact kept_type
structure GOk (X:Fx) (i:Nat):Prop where
 k:X.env.scope.names.lookup (Str.ofString (nm i))=some .globalImplicit
 d:(Str.ofString (nm i)==("__debug__":Str))=false
theorem bne_false {a b:Str} (h:(a != b)=true):(a==b)=false:=Bool.not_eq_true' _▸h
theorem isK_of {sc:Sc} {x:String} {k:NameKind} (h:isK sc x k=true):sc.lookup (Str.ofString x)=some k:=beq_iff_eq.mp h
theorem gOk_of {X:Fx} {i:Nat} (h:isG X.env.scope.names i=true):GOk X i:=have q:=Bool.and_eq_true_iff.mp h;⟨isK_of q.1,bne_false q.2⟩
noncomputable abbrev newP (C:Call) (f:Nat) (vs:List AV) (st:St) (Q:KV) (E:KX):Prop:=callK C f 1 (.ref st.H.length::vs) ⟨st.fr,st.H++[.inst f []]⟩ (fun v st'=>v=.none/\Q (.ref st.H.length) st') E
section
variable {L:Nat} {N:List String} {es:AEs} {pos q:Pos} {f pn p:Nat} (O:Ok Γ n C)
include O
theorem sim_arm_call (P:Pre Γ s R st) (g:GOk Γ.X f) (ha:SimAt Γ VRels (spliced (backTo pos (starEach (toEs L es N) Γ.X.env))) (vEs T C es st) s R) :
  SimAt Γ VRel (eval (.Call (.Name (Str.ofString (nm f)) q) (toEs L es N) [] pos) Γ.X.env) (vE T C (.call f es pn p) st) s R:=by
 rw [arm_eval_Call_Name']
 refine SimAt.and (p:=fun Q E=>vEs T C es st (fun vs st=>callK C 0 f vs st Q E) E) fun hf Q E hp=>?_
 obtain ⟨fd,e⟩:=Option.isSome_iff_exists.mp hf
 refine wpP_bind (wpP_globalV P O.fx O.st.g g.k g.d (O.st.fnG f fd e) ?_)
 exact sim_callWith (first:=[]) (q:=fun vs st=>callK C 0 f vs st) (plain_es es).any O.st.frag (kept_fn (O.st.fn _ _ _ e).keep) ha (fun vs bs s1 st1 R1 af rl=>(O.call _ _ _ _ _ _ _ _ _ _ e O.room.d O.fx af.pre rl).call) Q E hp
theorem sim_arm_new (P:Pre Γ s R st) (g:GOk Γ.X f) (ha:SimAt Γ VRels (spliced (backTo pos (starEach (toEs L es N) Γ.X.env))) (vEs T C es st) s R) :
  SimAt Γ VRel (eval (.Call (.Name (Str.ofString (nm f)) q) (toEs L es N) [] pos) Γ.X.env) (vE T C (.new f es pn p) st) s R:=by
 rw [arm_eval_Call_Name']
 refine SimAt.and (c:=T.cls f=true) (p:=fun Q E=>vEs T C es st (fun vs st=>newP C f vs st Q E) E) fun hf Q E hp=>?_
 have c:=O.st.cls f hf
 obtain ⟨fd,e⟩:=c.fn
 refine wpP_bind (wpP_globalV P O.fx O.st.g g.k g.d c.g ?_)
 refine sim_callWith (first:=[]) (q:=fun vs st=>newP C f vs st) (plain_es es).any O.st.frag (kept_fn c.keep) ha (fun vs bs s1 st1 R1 af rl Q E hp=>?_) Q E hp
 have P1:=af.pre
 obtain ⟨hh,g,d,t,os⟩:=s1
 have k:∀ b o,hh.get? b=some o->((hh.push emptyDict).push (instObj (CA f) hh.objs.size)).get? b=some o:=fun b o e=>Heap.get?_push_of_some _ (Heap.get?_push_of_some _ e)
 have gI:((hh.push emptyDict).push (instObj (CA f) hh.objs.size)).get? (hh.objs.size+1)=some (instObj (CA f) hh.objs.size):=by
  have:=Heap.get?_push_size (hh.push emptyDict) (o:=instObj (CA f) hh.objs.size) rfl
  rwa [Heap.size_push] at this
 have aA:=After.alloc (s:=⟨hh,g,d,t,os⟩) (h':=(hh.push emptyDict).push (instObj (CA f) hh.objs.size)) (tk:=t) (a:=hh.objs.size+1) (D:=hh.objs.size) (o:=.inst f []) P1 k (get_size_none _)
  (Heap.get?_none_of_le (Nat.le_succ _)) ⟨[],0,gI,Heap.get?_push_of_some _ (Heap.get?_push_size _ rfl),rfl,nofun,(fun _ _ _=>rfl),rfl⟩
 have nr:VRel ((hh.push emptyDict).push (instObj (CA f) hh.objs.size)) (R1++[(hh.objs.size+1,hh.objs.size)]) (.ref (hh.objs.size+1)) (.ref st1.H.length):=newRefV P1
 refine wpP_call (make_coreP (makes_of (inB O.st.frag P1) c.makes) (looks_findIn (inB O.st.frag P1) c.find) (fun self=>bind_fn (inB O.st.frag P1) self c.ty) rfl ?_)
 refine codeP_mono (O.call _ Γ.X _ _ _ _ _ _ _ _ e (O.room.making (C:=CA f) (rest:=vs)) O.fx (aA.pre.around rfl rfl) (VRels.cons nr (rl.mono (aA.keeps9 P1))) _ _ hp) fun x s2 hx=>?_
 rcases x with x|(_|_|_|v)
 ·obtain ⟨c',st2,R2,e2,af2,ex⟩:=hx
  exact ⟨c',st2,R2,e2,aA.trans (af2.around rfl rfl),ex.mono aA.step.live⟩
 ·exact hx.elim
 ·exact hx.elim
 ·exact hx.elim
 ·obtain ⟨a,st2,R2,e2,af2,r2⟩:=hx
  obtain ⟨rfl,e2⟩:=e2
  obtain rfl:=r2.none_v
  exact ⟨rfl,_,st2,R2,e2,aA.trans (af2.around rfl rfl),nr.mono ((After.around (Δ:=Γ) af2 rfl rfl).keeps9 aA.pre)⟩
end
end
end Ab
end
section
namespace Ab
open PySem PySem.W PySem.Calls PyProof.Rows PyProof.Rows.TI
section
variable (L n:Nat) (C:Call)
noncomputable abbrev testP (p:PT AV):PT Bool:=fun Q E=>p (fun v st=>v.isBool fun b=>Q b st) E
noncomputable abbrev opOf (k:Bool):BoolOp:=Bool.casesOn k .Or .And
def SE (e:AE):Prop:=∀ Γ s R st,Ok Γ n C->Pre Γ s R st->okE L e Γ.X.names Γ.X.env.scope.names=true->SimAt Γ VRel (eval (toE L e Γ.X.names) Γ.X.env) (vE T C e st) s R
def ST (e:AE):Prop:=∀ Γ s R st,Ok Γ n C->Pre Γ s R st->okE L e Γ.X.names Γ.X.env.scope.names=true->SimAt Γ BoolRel (isTrue (toE L e Γ.X.names) Γ.X.env (eval (toE L e Γ.X.names) Γ.X.env)) (testP (vE T C e st)) s R
structure VRelsL (n:Nat) (h:Heap) (R:Reg) (vs:List Value) (as:List AV):Prop where
 r:VRels h R vs as
 z:as.length=n
def SEs (es:AEs):Prop:=∀ Γ s R st pos,Ok Γ n C->Pre Γ s R st->okEs L es Γ.X.names Γ.X.env.scope.names=true->SimAt Γ (VRelsL es.len) (spliced (backTo pos (starEach (toEs L es Γ.X.names) Γ.X.env))) (vEs T C es st) s R
def SBs (es:AEs):Prop:=∀ Γ s R st pos k,Ok Γ n C->Pre Γ s R st->okEs L es Γ.X.names Γ.X.env.scope.names=true->SimAt Γ VRel (boolOp pos (opOf k) (evalEach (toEs L es Γ.X.names) Γ.X.env)) (vB T C k es st) s R
def STs (es:AEs):Prop:=∀ Γ s R st k,Ok Γ n C->Pre Γ s R st->okEs L es Γ.X.names Γ.X.env.scope.names=true->SimAt Γ BoolRel (allTrue (opOf k) (toEs L es Γ.X.names) Γ.X.env) (testP (vB T C k es st)) s R
end
section
variable {L n:Nat} {C:Call} {Γ:Cx} {s:Shared} {R:Reg} {st:St}
theorem and_l {a b:Bool} (h:(a&&b)=true):a=true:=(Bool.and_eq_true_iff.mp h).1
theorem and_r {a b:Bool} (h:(a&&b)=true):b=true:=(Bool.and_eq_true_iff.mp h).2
theorem okN_at (h:okN Γ.X.names=true) {i:Nat} (hi:i < Γ.X.names.length):(Str.ofString (Γ.X.names.getD i "")==("__debug__":Str))=false/\(Str.ofString (Γ.X.names.getD i "")==("__classdict__":Str))=false:=by
 have h:=List.all_eq_true.mp h (Γ.X.names.getD i "") (by rw [List.getD_eq_getElem?_getD,List.getElem?_eq_getElem hi];exact List.getElem_mem hi)
 exact ⟨bne_false (and_l h),bne_false (and_r h)⟩
theorem names_at {N:List String} {i:Nat} (hi:i < N.length):N[i]?=some (N.getD i ""):=by rw [List.getD_eq_getElem?_getD,List.getElem?_eq_getElem hi];rfl
structure Slot1 (X:Fx) (i:Nat) (k:Option NameKind->Prop):Prop where
 at':X.names[i]?=some (X.names.getD i "")
 k:k (X.env.scope.names.lookup (Str.ofString (X.names.getD i "")))
 d:(Str.ofString (X.names.getD i "")==("__debug__":Str))=false
 c:(Str.ofString (X.names.getD i "")==("__classdict__":Str))=false
theorem slot_k {i:Nat} {k:NameKind} (O:Ok Γ n C) (h:slotK Γ.X.names Γ.X.env.scope.names i k=true):Slot1 Γ.X i (·=some k) :=
 have hi:=Nat.le_of_ble_eq_true (and_l h)
 have d:=okN_at O.nms hi
 ⟨names_at hi,isK_of (and_r h),d.1,d.2⟩
theorem slot_c {i:Nat} (O:Ok Γ n C) (h:slotC Γ.X.names Γ.X.env.scope.names i=true):Slot1 Γ.X i isCellK :=
 have hi:=Nat.le_of_ble_eq_true (and_l h)
 have d:=okN_at O.nms hi
 ⟨names_at hi,((Bool.or_eq_true _ _).mp (and_r h)).imp isK_of isK_of,d.1,d.2⟩
theorem sim_cst {v:AV} {p:Nat} {env:Env} (P:Pre Γ s R st) (hx:okCst v=true):SimAt Γ VRel (eval (.Constant (constOf v) 0 (dp L p)) env) (fun Q _=>Q v st) s R:=by
 rw [arm_eval_Constant]
 cases v with
 | none=>exact .leaf P fun k=>wpAny_pure (k _ _ .none)
 | bool b=>exact .leaf P fun k=>wpAny_pure (k _ _ (.bool b))
 | int i=>exact .leaf P fun k=>wpAny_mkInt (k _ _ (.int _ _))
 | bytes b =>
  have z:b.length<=LIM:=Nat.le_trans (Nat.le_of_ble_eq_true hx) (by decide)
  exact .leaf P fun k=>wpAny_bind (wpAny_fresh (wpAny_pure (k _ _ (.bytes _ _ z))))
 | str x=>exact .leaf P fun k=>wpAny_mkText (k _ _ (.str _ _))
 | _=>exact nomatch (show false=true from hx)
theorem se_cst {v:AV} {p:Nat}:SE L n C (.cst v p):=fun Γ s R st O P hx=>sim_cst P hx
theorem se_loc {i p:Nat}:SE L n C (.loc i p):=fun Γ s R st O P hx =>
 have q:=slot_k O hx
 .getFr fun v hv=>sim_Name q.d (sim_loc P O.fx q.at' q.k hv)
theorem se_cel {i p:Nat}:SE L n C (.cel i p):=fun Γ s R st O P hx =>
 have q:=slot_c O hx
 .getFr fun v hv=>sim_Name q.d (sim_cel P O.fx q.at' q.k hv q.c)
theorem se_glb {x p:Nat}:SE L n C (.glb x p):=fun Γ s R st O P hx =>
 have q:=gOk_of hx
 .opt fun i e=>(O.st.glb x i e).elim fun t hm=>sim_Name q.d (sim_global P O.fx O.st.g q.k hm (.int _ _))
section
variable {e l r o:AE} {es:AEs} {p q x y:Nat}
theorem se_bin {op:Operator} (hl:SE L n C l) (hr:SE L n C r):SE L n C (.bin op l r p):=fun _ s R st O P hx =>
 sim_BinOp (hl _ s R st O P (and_l hx)) fun s1 st1 R1 P1=>hr _ s1 R1 st1 O P1 (and_r hx)
theorem not_marked {N:List String} {op:CmpOp}:behindInMarks op (toE L e N)=false:=by cases e <;> rfl
theorem units8 (O:Ok Γ n C):Γ.A.units + 8 < cLine:=by
 have h:=O.room.units
 generalize cLine=k at h ⊢
 omega
theorem se_cmp {op:CmpOp} (hl:SE L n C l) (hr:SE L n C r):SE L n C (.cmp op l r p):=fun _ s R st O P hx =>
 sim_Compare (units8 O) not_marked (hl _ s R st O P (and_l hx)) fun s1 st1 R1 P1=>hr _ s1 R1 st1 O P1 (and_r hx)
theorem st_cmp {op:CmpOp} (hl:SE L n C l) (hr:SE L n C r):ST L n C (.cmp op l r p):=fun _ s R st O P hx =>
 sim_CompareT (units8 O) not_marked (hl _ s R st O P (and_l hx)) fun s1 st1 R1 P1=>hr _ s1 R1 st1 O P1 (and_r hx)
theorem se_not (h:SE L n C e):SE L n C (.not e p):=fun _ s R st O P hx=>sim_Not (h _ s R st O P hx)
theorem st_not (h:ST L n C e):ST L n C (.not e p):=fun Γ s R st O P hx=>by
 show SimAt Γ BoolRel (isTrue (toE L e Γ.X.names) Γ.X.env (eval (toE L e Γ.X.names) Γ.X.env) >>= fun b=>pure (!b)) (fun Q E=>vE T C e st (fun v st=>v.isBool fun b=>Q (!b) st) E) s R
 exact SimAt.map (p:=testP (vE T C e st)) (f:=fun b=>!b) (g:=fun b=>!b) (h _ s R st O P hx) fun h R b a e=>congrArg _ e
theorem se_bop {k:Bool} (h:SBs L n C es):SE L n C (.bop k es p):=fun Γ s R st O P hx=>by
 show SimAt Γ VRel (eval (.BoolOp (opOf k) (toEs L es Γ.X.names) (dp L p)) Γ.X.env) (vB T C k es st) s R
 rw [arm_eval_BoolOp]
 exact h _ s R st _ k O P hx
theorem st_bop {k:Bool} (h:STs L n C es):ST L n C (.bop k es p):=fun Γ s R st O P hx=>h _ s R st k O P hx
theorem sb_nil:SBs L n C .nil:=fun _ _ _ _ _ _ _ _ _=>.no
theorem stb_nil:STs L n C .nil:=fun _ _ _ _ _ _ _ _=>.no
theorem sb_one (h:SE L n C e):SBs L n C (.cons e .nil):=fun Γ s R st _ _ O P hx=>h _ s R st O P (and_l hx)
theorem sim_ifb {α β:Type} {rel:Rl β α} {t:Sem β} {b:Bool} {p q:PT α} (h1:b=true->SimAt Γ rel t p s R) (h2:b=false->SimAt Γ rel t q s R):SimAt Γ rel t (fun Q E=>ifb b (p Q E) (q Q E)) s R:=by
 cases b
 ·exact h2 rfl
 ·exact h1 rfl
theorem sb_more {e':AE} {es:AEs} (h:SE L n C e) (hs:SBs L n C (.cons e' es)):SBs L n C (.cons e (.cons e' es)):=fun Γ s R st pos k O P hx=>by
 show SimAt Γ VRel (eval (toE L e Γ.X.names) Γ.X.env >>= fun v=>standAt pos >>= fun _=>PySem.holding [v] (truthy v) >>= fun t=>match (generalizing:=false) opOf k,t with
  | .And,false|.Or,true=>pure v
  | _,_=>boolOp pos (opOf k) (evalEach (toEs L (.cons e' es) Γ.X.names) Γ.X.env)) (fun Q E=>vE T C e st (fun v st=>v.isBool fun b=>Bool.casesOn k (ifb b (Q v st) (vB T C k (.cons e' es) st Q E)) (ifb b (vB T C k (.cons e' es) st Q E) (Q v st))) E) s R
 refine SimAt.bind (p:=vE T C e st) (g:=fun v st Q E=>v.isBool fun b=>Bool.casesOn k (ifb b (Q v st) (vB T C k (.cons e' es) st Q E)) (ifb b (vB T C k (.cons e' es) st Q E) (Q v st))) (h _ s R st O P (and_l hx)) fun v s1 b st1 R1 af1 r1=>.standAt ?_
 refine SimAt.bind (rel:=BoolRel) (p:=fun Q _=>b.isBool fun t=>Q t st1) (g:=fun t st Q E=>Bool.casesOn k (ifb t (Q b st) (vB T C k (.cons e' es) st Q E)) (ifb t (vB T C k (.cons e' es) st Q E) (Q b st))) (sim_truthy af1.pre r1).holding fun t' s2 t st2 R2 af2 rl=>?_
 obtain rfl:t'=t:=rl
 have go:=hs _ s2 R2 st2 pos k O af2.pre (and_r hx)
 have ok:SimAt Γ VRel (pure v) (fun Q _=>Q b st2) s2 R2:=SimAt.ok af2.pre (r1.mono (af2.keeps9 af1.pre))
 cases k <;> cases t' <;> first|exact go|exact ok
theorem stb_one (h:ST L n C e):STs L n C (.cons e .nil):=fun Γ s R st k O P hx=>by
 show SimAt Γ BoolRel (isTrue (toE L e Γ.X.names) Γ.X.env (eval (toE L e Γ.X.names) Γ.X.env) >>= fun t=>match (generalizing:=false) opOf k,t with
  | .And,false=>pure false
  | .Or,true=>pure true
  | _,_=>pure (opOf k==.And)) (testP (vE T C e st)) s R
 refine SimAt.bind (p:=testP (vE T C e st)) (g:=fun b st Q _=>Q b st) (h _ s R st O P (and_l hx)) fun t' s1 t st1 R1 af1 rl=>?_
 obtain rfl:t'=t:=rl
 cases k <;> cases t' <;> exact SimAt.ok af1.pre rfl
theorem stb_more {e':AE} {es:AEs} (h:ST L n C e) (hs:STs L n C (.cons e' es)):STs L n C (.cons e (.cons e' es)):=fun Γ s R st k O P hx=>by
 show SimAt Γ BoolRel (isTrue (toE L e Γ.X.names) Γ.X.env (eval (toE L e Γ.X.names) Γ.X.env) >>= fun t=>match (generalizing:=false) opOf k,t with
  | .And,false=>pure false
  | .Or,true=>pure true
  | _,_=>allTrue (opOf k) (toEs L (.cons e' es) Γ.X.names) Γ.X.env) (testP (fun Q E=>vE T C e st (fun v st=>v.isBool fun b=>Bool.casesOn k (ifb b (Q v st) (vB T C k (.cons e' es) st Q E)) (ifb b (vB T C k (.cons e' es) st Q E) (Q v st))) E)) s R
 refine fun Q E hp=>SimAt.bind (p:=testP (vE T C e st)) (g:=fun t st Q E=>Bool.casesOn k (ifb t (Q t st) (testP (vB T C k (.cons e' es) st) Q E)) (ifb t (testP (vB T C k (.cons e' es) st) Q E) (Q t st))) (h _ s R st O P (and_l hx)) (fun t' s1 t st1 R1 af1 rl=>?_) Q E ?_
 ·obtain rfl:t'=t:=rl
  have go:=hs _ s1 R1 st1 k O af1.pre (and_r hx)
  have ok:SimAt Γ BoolRel (pure t') (fun Q _=>Q t' st1) s1 R1:=SimAt.ok af1.pre rfl
  cases k <;> cases t' <;> first|exact go|exact ok
 ·have e1:(fun v st=>v.isBool fun t=>Bool.casesOn k (ifb t (Q t st) (testP (vB T C k (.cons e' es) st) Q E)) (ifb t (testP (vB T C k (.cons e' es) st) Q E) (Q t st)):KV) =
    fun v st=>v.isBool fun b=>Bool.casesOn k (ifb b (v.isBool fun b=>Q b st) (testP (vB T C k (.cons e' es) st) Q E)) (ifb b (testP (vB T C k (.cons e' es) st) Q E) (v.isBool fun b=>Q b st)):=funext fun v=>funext fun st=>by cases v <;> rfl
  exact Eq.mpr (congrArg (fun q=>vE T C e st q E) e1) hp
end
end
end Ab
end
section
namespace Ab
open PySem PySem.W PySem.Calls PyProof.Rows PyProof.Rows.TI
section
variable {L n:Nat} {C:Call} {Γ:Cx} {s:Shared} {R:Reg} {st:St} {e l r o:AE} {es:AEs} {p q x y:Nat}
theorem ses_nil:SEs L n C .nil:=fun _ _ _ _ _ O P hx=>SimAt.ok P ⟨.nil,rfl⟩
theorem ses_cons (h:SE L n C e) (hs:SEs L n C es):SEs L n C (.cons e es):=fun Γ s R st pos O P hx=>by
 show SimAt Γ (VRelsL (es.len+1)) (spliced (backTo pos (starEach (toE L e Γ.X.names::toEs L es Γ.X.names) Γ.X.env))) (vEs T C (.cons e es) st) s R
 rw [star_cons]
 refine sim_spliced (l:=backTo pos (starEach (toEs L es Γ.X.names) Γ.X.env)) (q:=fun v st Q E=>vEs T C es st (fun vs st=>Q (v::vs) st) E) (h _ s R st O P (and_l hx)) fun v s1 a st1 R1 af1 r1=>?_
 exact SimAt.bind (p:=vEs T C es st1) (g:=fun vs st Q _=>Q (a::vs) st) (hs _ s1 R1 st1 pos O af1.pre (and_r hx)).holding fun v2 s2 bs st2 R2 af2 r2=>SimAt.ok af2.pre ⟨VRels.cons (r1.mono (af2.keeps9 af1.pre)) r2.r,congrArg (·+1) r2.z⟩
theorem SEs.at (h:SEs L n C es) (O:Ok Γ n C) (P:Pre Γ s R st) (hx:okEs L es Γ.X.names Γ.X.env.scope.names=true) {pos:Pos}:SimAt Γ VRels (spliced (backTo pos (starEach (toEs L es Γ.X.names) Γ.X.env))) (vEs T C es st) s R :=
 (h _ s R st pos O P hx).weaken fun _ _ _ _ x=>x.r
theorem se_call {f:Nat} (h:SEs L n C es):SE L n C (.call f es p q):=fun Γ s R st O P hx=>sim_arm_call O P (gOk_of (and_l (and_l hx))) (h.at O P (and_r hx))
theorem se_new {f:Nat} (h:SEs L n C es):SE L n C (.new f es p q):=fun Γ s R st O P hx=>sim_arm_new O P (gOk_of (and_l (and_l hx))) (h.at O P (and_r hx))
theorem base_eq {N:List String} {a:Str} {env:Env} {t:Sem Value} (h:notSup e=true):attributeBase (toE L e N) a env t=t:=by
 cases e <;> first|rfl|(rename_i es _ _;cases es <;> first|rfl|cases h)
theorem len_es {N:List String}:∀ es:AEs,(toEs L es N).length=es.len:=fun es=>by
 induction es using AEs.rec (motive_1:=fun _=>True) with
 | nil=>rfl
 | cons e es _ ih=>exact congrArg (·+1) ih
 | _=>trivial
theorem form_true {N:List String} {pos:Pos} {env:Env} (hl:lenOk es=true):methodCallForm ((toEs L es N).length + ([]:List Keyword).length) (backTo pos (starEach (toEs L es N) env)) (backToKw pos (keywordEach [] env))=true:=by
 unfold methodCallForm
 rw [(plain_es (L:=L) (N:=N) (env:=env) (pos:=pos) es).all,len_es]
 exact decide_eq_true (Nat.lt_of_le_of_lt (Nat.le_of_ble_eq_true hl) (by decide))
theorem posAt {o:Expr} {env:Env} {pa:Nat} (h:lineOk L pa p=true):methodCallPos true o env (dp L pa) (dp L p)=pure (dp L p):=by
 unfold methodCallPos
 rw [show ((dp L pa).endLine==(dp L p).line)=true from beq_iff_eq.mpr (Nat.eq_of_beq_eq_true h)];rfl
theorem sim_method {m:Str} {pa:Nat} {f:Value} {v:Value} {k:List AV->St->PT AV} (O:Ok Γ n C) (hline:lineOk L pa p=true) (hl:lenOk es=true) (hes:okEs L es Γ.X.names Γ.X.env.scope.names=true) (h:SEs L n C es) (P:Pre Γ s R st) (hk:Kept1 Γ.G f) {ob:Expr}
  (hf:∀ {pl:Sem Bool} {Q:Value×List Value->Shared->Prop} {E:Value->Shared->Prop},Q (f,[v]) s->wpAny Γ.M Γ.A (getMethod v m pl) Q E s)
  (hc:∀ vs as s1 st1 R1,After Γ s R s1 R1 st1->VRels s1.heap R1 vs as->SimAt Γ VRel (call f (v::vs)) (k as st1) s1 R1) :
  SimAt Γ VRel (methodCall ob m (dp L pa) (dp L p) Γ.X.env v ((toEs L es Γ.X.names).length + ([]:List Keyword).length) (backTo (dp L p) (starEach (toEs L es Γ.X.names) Γ.X.env)) (backToKw (dp L p) (keywordEach [] Γ.X.env))) (fun Q E=>vEs T C es st (fun vs st=>k vs st Q E) E) s R:=fun Q E hp=>by
 unfold methodCall
 rw [form_true hl]
 refine wpP_bind (wpP_holding (wpP_of (hf ?_)))
 dsimp only
 rw [posAt hline]
 exact wpP_bind (wpP_pure (sim_callWith (first:=[v]) (q:=k) (plain_es es).any O.st.frag hk (h.at O P hes) hc Q E hp))
theorem se_meth {m:Nat} (ho:SE L n C o) (h:SEs L n C es):SE L n C (.meth o m es p q):=fun Γ s R st O P hx=>by
 show SimAt Γ VRel (eval (.Call (.Attribute (toE L o Γ.X.names) (Str.ofString (nm m)) (dp L p)) (toEs L es Γ.X.names) [] (dp L q)) Γ.X.env) _ s R
 have h1:=and_l (and_l hx)
 rw [arm_eval_Call,base_eq (and_r (and_l h1))]
 refine SimAt.bind (p:=vE T C o st) (g:=fun a st Q E=>a.isRef fun l=>Ins st.H l fun c fs=>(T.fn c m).isSome=true/\c≠0/\fget m fs=none/\vEs T C es st (fun vs st=>callK C c m (.ref l::vs) st Q E) E) (ho _ s R st O P (and_r (and_l hx))) fun v1 s1 a st1 R1 af1 r1=>.standAt ?_
 refine .isRef fun l e=>.ins fun c fs hH=>.and fun hf=>.and fun hc=>.and fun hn=>?_
 subst e
 obtain ⟨fd,e⟩:=Option.isSome_iff_exists.mp hf
 have M:=O.st.meth c m fd e hc
 obtain ⟨ad,D,des,dn,rfl,g,g1,g2,_,fm⟩:=af1.pre.ins r1 hH
 refine sim_method (k:=fun vs st=>callK C c m (.ref l::vs) st) O (and_l (and_l h1)) (and_r h1) (and_r hx) h af1.pre (kept_fn (O.st.fn _ _ _ e).keep) (fun hq=>?_) fun vs bs s2 st2 R2 af rl=>?_
 ·exact method_fn (K:=Γ.G.K) (inB O.st.frag af1.pre) (od:=some (dictOf des dn)) ⟨g1,rfl,rfl,g2⟩ (plainGet_of M.get).1 (plainGet_of M.get).2 M.find (beq_iff_eq.mp M.isFn) (by show (lookIn (Str.ofString (nm m)) (dictOf des dn)).map _=_;rw [lookIn_dict,fm.nn m M.lt hn];rfl) hq
 ·exact (O.call _ _ _ _ _ _ _ _ _ _ e O.room.d O.fx af.pre (VRels.cons (r1.mono (af.keeps9 af1.pre)) rl)).call
theorem se_lmeth {m:LM} (ho:SE L n C o) (h:SEs L n C es):SE L n C (.lmeth o m es p q):=fun Γ s R st O P hx=>by
 show SimAt Γ VRel (eval (.Call (.Attribute (toE L o Γ.X.names) (Str.ofString m.name) (dp L p)) (toEs L es Γ.X.names) [] (dp L q)) Γ.X.env) _ s R
 have h1:=and_l (and_l hx)
 rw [arm_eval_Call,base_eq (and_r (and_l h1))]
 refine SimAt.bind (p:=vE T C o st) (g:=fun a st Q E=>lmK m a st.H/\vEs T C es st (fun vs st=>lmP m a vs st Q) E) (ho _ s R st O P (and_r (and_l hx))) fun v1 s1 a st1 R1 af1 r1=>.standAt (.and fun hk=>?_)
 exact sim_method (k:=fun vs st Q _=>lmP m a vs st Q) O (and_l (and_l h1)) (and_r h1) (and_r hx) h af1.pre kept_builtin (fun hq=>lm_method af1.pre r1 hk hq) fun vs bs s2 st2 R2 af rl=>sim_lmCall O.fx af.pre (r1.mono (af.keeps9 af1.pre)) rl
theorem se_attr {a:Nat} (ho:SE L n C o):SE L n C (.attr o a p):=fun Γ s R st O P hx=>by
 show SimAt Γ VRel (eval (.Attribute (toE L o Γ.X.names) (Str.ofString (nm a)) (dp L p)) Γ.X.env) _ s R
 rw [arm_eval_Attribute,base_eq (and_l hx)]
 refine SimAt.bind (p:=vE T C o st) (g:=fun v st Q _=>v.isRef fun l=>Ins st.H l fun c fs=>T.field c a=true/\optP (fget a fs) fun r=>Q r st) (ho _ s R st O P (and_r hx)) fun v1 s1 v st1 R1 af1 r1=>.standAt (.isRef fun l e=>.ins fun c fs hH=>.and fun hf=>?_)
 subst e
 exact .skipPure (fun _ _ h=>wpAny_letTemporaryGo h) (sim_getAttr O.st.frag af1.pre r1 hH (O.st.field c a hf)).holding
theorem se_sub (ho:SE L n C o) (hi:SE L n C e):SE L n C (.sub o e p):=fun Γ s R st O P hx=>sim_Subscript (q:=0) rfl (ho _ s R st O P (and_l hx)) fun s1 st1 R1 P1=>hi _ s1 R1 st1 O P1 (and_r hx)
theorem isAbs_eq (h:isAbs e=true):e=.abs:=by cases e <;> first|rfl|exact nomatch (show false=true from h)
theorem sim_bound (h:SE L n C e) (O:Ok Γ n C) (P:Pre Γ s R st) (hx:(isAbs e || okE L e Γ.X.names Γ.X.env.scope.names)=true):SimAt Γ VRel (valueOrNone (evalOpt (optE e (toE L e Γ.X.names)) Γ.X.env)) (vE T C e st) s R:=by
 cases ha:isAbs e with
 | true =>
  obtain rfl:=isAbs_eq ha
  exact .ok P .none
 | false =>
  rw [ha] at hx
  unfold optE
  rw [ha]
  exact h _ s R st O P hx
theorem se_slc (ho:SE L n C o) (hl:SE L n C l) (hr:SE L n C r):SE L n C (.slc o l r p q):=fun Γ s R st O P hx =>
 sim_Slc (ho _ s R st O P (and_l (and_l hx))) (fun s1 st1 R1 P1=>sim_bound hl O P1 (and_r (and_l hx))) fun s1 st1 R1 P1=>sim_bound hr O P1 (and_r hx)
theorem len_lim {as:List AV} (h:lenOk es=true) (z:as.length=es.len):as.length<=LIM:=z▸Nat.le_trans (Nat.le_of_ble_eq_true h) (by decide)
theorem se_lst (h:SEs L n C es):SE L n C (.lst es p):=fun Γ s R st O P hx=>by
 show SimAt Γ VRel (eval (.List (toEs L es Γ.X.names) (dp L p)) Γ.X.env) _ s R
 rw [arm_eval_List]
 exact .standAt (SimAt.bind (p:=vEs T C es st) (g:=fun vs st (Q:KV) _=>Q (.ref st.H.length) ⟨st.fr,st.H++[.list vs]⟩) (h _ s R st _ O P (and_r hx)) fun vs s1 bs st1 R1 af1 r1=>sim_newList af1.pre r1.r (len_lim (and_l hx) r1.z))
theorem sim_newTuple {vs:List Value} {as:List AV} (P:Pre Γ s R st) (r:VRels s.heap R vs as) (hz:as.length<=LIM):SimAt Γ VRel (newTuple vs) (fun Q _=>Q (.tup as) st) s R:=.rule fun Q E hp =>
 wpAny_newTuple (tup_made P (fun _ _ e=>Heap.get?_push_of_some _ e) (Heap.get?_push_size _ rfl) hz r hp) (by rw [r.len];exact Nat.le_trans hz LIM_line)
theorem se_tup (h:SEs L n C es):SE L n C (.tup es p):=fun Γ s R st O P hx=>by
 show SimAt Γ VRel (eval (.Tuple (toEs L es Γ.X.names) 0 (dp L p)) Γ.X.env) _ s R
 rw [arm_eval_Tuple]
 exact .standAt (SimAt.bind (p:=vEs T C es st) (g:=fun vs st (Q:KV) _=>Q (.tup vs) st) (h _ s R st _ O P (and_r hx)) fun vs s1 bs st1 R1 af1 r1=>sim_newTuple af1.pre r1.r (len_lim (and_l hx) r1.z))
theorem prim_debug (p:Prim):(Str.ofString p.name==("__debug__":Str))=false:=by cases p <;> decide
theorem se_prim {k:Prim} (h:SEs L n C es):SE L n C (.prim k es p q):=fun Γ s R st O P hx=>by
 show SimAt Γ VRel (eval (.Call (.Name (Str.ofString k.name) (dp L p)) (toEs L es Γ.X.names) [] (dp L q)) Γ.X.env) (fun Q E=>vEs T C es st (fun vs st=>primP k vs st Q) E) s R
 rw [arm_eval_Call_Name']
 have k1:=O.st.prim k
 exact fun Q E hp=>wpP_bind (wpP_builtinV P O.fx O.st.g O.st.b (isK_of (and_l (and_l hx))) (prim_debug k) k1.g k1.b
  (sim_callWith (first:=[]) (q:=fun vs st Q _=>primP k vs st Q) (plain_es es).any O.st.frag (kept_prim k) (h.at O P (and_r hx)) (fun vs bs s1 st1 R1 af rl=>sim_prim O.room.handled O.fx af.pre rl) Q E hp))
inductive IsbV (h:Heap) (R:Reg) (vs:List Value) (a:AV):Prop
 | mk (u:Value) (e:vs=[u,.type "bytes"]) (r:VRel h R u a)
theorem se_isb (h:SE L n C e):SE L n C (.isb e p q x):=fun Γ s R st O P hx=>by
 show SimAt Γ VRel (eval (.Call (.Name "isinstance" (dp L p)) [toE L e Γ.X.names,.Name "bytes" (dp L q)] [] (dp L x)) Γ.X.env) (fun Q E=>vE T C e st (fun a st=>a.isBytes fun _=>Q (.bool true) st) E) s R
 rw [arm_eval_Call_Name']
 have k1:=O.st.isb
 have k2:=O.st.prim .bytes
 have hsp:SimAt Γ IsbV (spliced (backTo (dp L x) (starEach [toE L e Γ.X.names,.Name "bytes" (dp L q)] Γ.X.env))) (vE T C e st) s R:=by
  rw [star_cons]
  refine sim_spliced (l:=[(false,eval (.Name "bytes" (dp L q)) Γ.X.env)]) (q:=fun a st (Q:AV->St->Prop) _=>Q a st) (h _ s R st O P (and_r hx)) fun v s1 a st1 R1 af1 r1=>?_
  refine fun Q E hp=>wpP_bind (wpP_holding ?_)
  rw [spliced]
  refine wpP_bind (wpP_builtinV af1.pre O.fx O.st.g O.st.b (isK_of (and_r (and_l hx))) (by decide) k2.g k2.b ?_)
  simp only [Bool.false_eq_true,if_false]
  exact wpP_bind (wpP_pure (wpP_bind (wpP_holding (wpP_pure (wpP_pure (wpP_pure ⟨a,st1,R1,hp,.refl af1.pre,v,rfl,r1⟩))))))
 have hst:(backTo (dp L x) (starEach [toE L e Γ.X.names,.Name "bytes" (dp L q)] Γ.X.env)).any (·.1)=false:=by rw [star_cons];rfl
 refine fun Q E hp=>wpP_bind (wpP_builtinV P O.fx O.st.g O.st.b (isK_of (and_l (and_l hx))) (by decide) k1.g k1.b
  (sim_callWith (first:=[]) (q:=fun a st (Q:KV) _=>a.isBytes fun _=>Q (.bool true) st) hst O.st.frag kept_builtin hsp (fun vs a s1 st1 R1 af rl=>?_) Q E hp))
 obtain ⟨u,rfl,ru⟩:=rl
 exact .isBytes fun b f=>sim_isBytes af.pre (f▸ru)
end
end Ab
end
section
namespace Ab
open PySem PySem.W PySem.Calls PyProof.Rows PyProof.Rows.TI
section
variable {Γ:Cx} {s s':Shared} {R R':Reg} {st st':St} {h h':Heap} {it:Addr} {all:List AV} {wt:Option Nat} {i:Nat}
inductive IterSt (h:Heap) (R:Reg) (it:Addr):List AV->Option Nat->Nat->Prop where
 | rng {n i:Nat} {f:Nat->Nat} {x z:Int}:(∀ i:Nat,(f i:Int)=x + (i:Int) * z)->IsRangeIter h it (f i:Int) ((n:Int) - (i:Int)) z->IterSt h R it (rngItems n f) none i
 | bytes {b:List UInt8} {t:Tok} {i:Nat}:KBw.IsBytesIter h it b.toArray t i->IterSt h R it (octInts b) none i
 | tup {t:Addr} {vs:List Value} {all:List AV} {i:Nat}:h.IsTupleIter it t i->h.TupAt t vs->VRels h R vs all->IterSt h R it all none i
 | list {l:Nat} {p:Addr×Addr} {all:List AV} {i:Nat}:R[l]?=some p->h.IsListIter it p.1 i->IterSt h R it all (some l) i
inductive ItObj (h:Heap) (it:Addr):Prop
 | mk (o:Obj) (vs:Array Value) (g:h.get? it=some o) (d:o.data=.fields vs) (c:o.cls≠.type "range") (k:∀ n,o.cls=.type n->["enumerate","zip","dict_itemiterator","dict_reverseitemiterator","odict_iterator","itertools.zip_longest","itertools.pairwise"].contains n=false) (t:∃ n,o.cls=.type n)
theorem itObj_of {o:Obj} {vs:Array Value} {n:String} (g:h.get? it=some o) (hd:o.data=.fields vs) (hc:o.cls=.type n) (h1:n≠"range") (h2:["enumerate","zip","dict_itemiterator","dict_reverseitemiterator","odict_iterator","itertools.zip_longest","itertools.pairwise"].contains n=false):ItObj h it :=
 ⟨o,vs,g,hd,fun q=>h1 (by injection hc.symm.trans q),fun m q=>(by injection hc.symm.trans q:n=m)▸h2,n,hc⟩
theorem IterSt.obj (x:IterSt h R it all wt i):ItObj h it:=by
 cases x with
 | rng _ q=>exact itObj_of q rfl rfl (by decide) (by decide)
 | bytes q=>obtain ⟨o,g,hc,hd⟩:=q;exact itObj_of g hd hc (by decide) (by decide)
 | tup q _ _=>obtain ⟨o,g,hc,hd⟩:=q;exact itObj_of g hd hc (by decide) (by decide)
 | list _ q=>obtain ⟨o,g,hc,hd⟩:=q;exact itObj_of g hd hc (by decide) (by decide)
theorem IterSt.mono (x:IterSt h R it all wt i) (hk:∀ o,h.get? it=some o->h'.get? it=some o) (k9:Keeps9 h R h' R'):IterSt h' R' it all wt i:=by
 cases x with
 | rng k q=>exact .rng k (hk _ q)
 | bytes q=>obtain ⟨o,g,r⟩:=q;exact .bytes ⟨o,hk _ g,r⟩
 | tup q t v=>obtain ⟨o,g,r⟩:=q;exact .tup ⟨o,hk _ g,r⟩ (k9.tup _ _ t) (v.mono k9)
 | list e q=>obtain ⟨o,g,r⟩:=q;exact .list (k9.reg _ _ e) ⟨o,hk _ g,r⟩
theorem ItObj.keeps9 (x:ItObj h it) (e:Heap.ExtBut it h h'):Keeps9 h R h' R:=by
 obtain ⟨o,vs,g,hd,hc,_,_⟩:=x
 exact ⟨fun a us ⟨o',n,g',c,d⟩=>⟨o',n,e a o' (fun q=>by rw [(inj_some (q▸g') g:o'=o),hd] at d;cases d) g',c,d⟩,fun a _ _ _ _ _ _ r=>e a _ (fun q=>hc (inj_some (q▸r) g▸rfl)) r,fun _ _ e=>e⟩
theorem isTuple_at {t:Addr} {vs:List Value} (x:h.TupAt t vs):h.IsTuple t vs.toArray:=let ⟨o,n,e,hc,hd⟩:=x;⟨o,e,hc,n,hd⟩
theorem get_out {α:Type} {xs:List α} {i:Nat} (h:xs[i]?=none):xs.length<=i:=List.getElem?_eq_none_iff.mp h
theorem iter_next {Q:Option Value->Shared->Prop} {E:Value->Shared->Prop} (hh:Γ.A.handled=none) (P:Pre Γ s R st) (x:IterSt s.heap R it all wt i) (hs:stands wt all st.H) (hle:i<=all.length)
  (h1:∀ a v h' tk,all[i]?=some a->VRel s.heap R v a->Heap.ExtBut it s.heap h'->IterSt h' R it all wt (i+1)->Q (some v) { s with heap:=h',toks:=tk })
  (h2:∀ h',all[i]?=none->Heap.ExtBut it s.heap h'->Q none { s with heap:=h' }):wpAny Γ.M Γ.A (pyNext (.ref it)) Q E s:=by
 have k9:∀ {h'},Heap.ExtBut it s.heap h'->Keeps9 s.heap R h' R:=x.obj.keeps9
 cases x with
 | @rng n i f x z k q =>
  by_cases hi:i < n
  ·refine wpAny_pyNext_range_item q (by omega) fun h' hit hs'=>h1 (.int (f i:Int)) _ h' _ (by rw [rngItems,List.getElem?_map,List.getElem?_range hi];rfl) (.int _ _) hs'.extBut ?_
   refine .rng k ?_
   rw [show (f (i+1):Int)=f i + z by rw [k,k,Int.natCast_succ,Int.add_mul,Int.one_mul,Int.add_assoc],Int.natCast_succ,<-Int.sub_sub]
   exact hit
  ·exact wpAny_pyNext_range_end hh q (by omega) fun h' he=>h2 h' (List.getElem?_eq_none (by rw [rngItems,List.length_map,List.length_range];exact Nat.not_lt.mp hi)) he
 | @bytes b t i q =>
  cases hb:b[i]? with
  | some c=>exact KBw.next_item q (by rw [List.getElem?_toArray];exact hb) fun h' hit hs'=>h1 (.int c.toNat) _ h' _ (by rw [octInts,List.getElem?_map,hb];rfl) (.int _ _) hs'.extBut (.bytes hit)
  | none=>exact KBw.next_end hh q (by rw [List.getElem?_toArray];exact hb) fun h' he=>h2 h' (by rw [octInts,List.getElem?_map,hb];rfl) he
 | @tup t vs all i q ht hv =>
  cases hb:all[i]? with
  | some a =>
   obtain ⟨v,e,rv⟩:=hv.get hb
   exact wpAny_pyNext_tuple_item q (isTuple_at ht) (by rw [List.getElem?_toArray];exact e) fun h' hit hs'=>have k:=k9 hs'.extBut;h1 _ _ h' s.toks hb rv hs'.extBut (.tup hit (k.tup _ _ ht) (hv.mono k))
  | none=>exact wpAny_pyNext_tuple_end hh q (isTuple_at ht) (by rw [List.getElem?_toArray];exact List.getElem?_eq_none (hv.len▸get_out hb)) fun h' he=>h2 h' hb he
 | @list l p all i e q =>
  obtain ⟨vs,n,ep,z,g,hv⟩:=P.sat.objs _ _ _ e hs
  have g:=ep▸g
  cases hb:all[i]? with
  | some a =>
   obtain ⟨v,e',rv⟩:=hv.get hb
   exact wpAny_pyNext_list_item q (isList g) (by rw [List.getElem?_toArray];exact e') fun h' hit hs'=>h1 _ _ h' s.toks hb rv hs'.extBut (.list e hit)
  | none=>exact wpAny_pyNext_list_end hh q (isList g) (by rw [List.getElem?_toArray];exact List.getElem?_eq_none (hv.len▸get_out hb)) fun h' he=>h2 h' hb he
theorem iter_self {Q:Value->Shared->Prop} {E:Value->Shared->Prop} (x:IterSt s.heap R it all wt i) (h:Q (.ref it) s):wpAny Γ.M Γ.A (pyIter (.ref it)) Q E s:=by
 cases x with
 | rng _ q=>exact wpAny_pyIter_rangeiter q h
 | bytes q=>exact KBw.pyIter_self q h
 | tup q _ _=>exact wpAny_pyIter_tupleiter q h
 | list _ q=>exact wpAny_pyIter_listiter q h
inductive NewIt (s:Shared) (R:Reg) (all:List AV) (wt:Option Nat) (h':Heap):Prop
 | mk (o:Obj) (vs:Array Value) (e:h'=s.heap.push o) (d:o.data=.fields vs) (x:IterSt h' R s.heap.objs.size all wt 0)
theorem iter_start {v:Value} {a:AV} {k:List AV->Option Nat->Prop} {Q:Value->Shared->Prop} {E:Value->Shared->Prop} (P:Pre Γ s R st) (x:VRel s.heap R v a) (he:iterP a st.H k)
  (hQ:∀ all wt h',k all wt->NewIt s R all wt h'->Q (.ref s.heap.objs.size) { s with heap:=h' }):wpAny Γ.M Γ.A (pyIter v) Q E s:=by
 have k9:∀ o,Keeps9 s.heap R (s.heap.push o) R:=fun o=>keeps9_h fun _ _ e=>Heap.get?_push_of_some _ e
 cases a with
 | rng n f =>
  obtain ⟨a,x,y,z,t,u,w,rfl,k,r⟩:=x.rng_v
  refine wpAny_pyIter_range r k.sm (hQ _ _ _ he ⟨_,_,rfl,rfl,.rng k.at' ?_⟩)
  show (s.heap.push _).get? _=some _
  rw [Heap.get?_push_size _ rfl,k.sz,k.at' 0]
  simp [rawInt]
 | bytes b =>
  obtain ⟨t,rfl,z⟩:=x.bytes_v
  exact KBw.pyIter_bytes (hQ _ _ _ he ⟨_,_,rfl,rfl,.bytes ⟨_,Heap.get?_push_size _ rfl,rfl,rfl⟩⟩)
 | tup as =>
  obtain ⟨a,vs,rfl,ht,z,r⟩:=x.tup_v
  exact wpAny_pyIter_tuple (isTuple_at ht) (hQ _ _ _ he ⟨_,_,rfl,rfl,.tup ⟨_,Heap.get?_push_size _ rfl,rfl,rfl⟩ ((k9 _).tup _ _ ht) (r.mono (k9 _))⟩)
 | ref l =>
  obtain ⟨xs,h1,hk⟩:=he
  obtain ⟨a,us,n,rfl,e,z,g,r⟩:=P.lst x h1
  exact wpAny_pyIter_list (isList g) (hQ _ _ _ hk ⟨_,_,rfl,rfl,.list e ⟨_,Heap.get?_push_size _ rfl,rfl,rfl⟩⟩)
 | _=>exact he.elim
theorem ItObj.notOwned {target:Expr} {v:Value} {Q:Unit->Shared->Prop} {E:Value->Shared->Prop} (x:ItObj s.heap it) (h:Q () s):wpAny Γ.M Γ.A (letOwnedTupleGo target (.ref it) v) Q E s:=by
 obtain ⟨o,vs,g,hd,_,hk,n,hc⟩:=x
 have hk:=hk n hc
 have key:∀ v:Value,wpAny Γ.M Γ.A (do
   let (.ref r,.ref a):=(Value.ref it,v)|return
   let o ← load r
   match o.cls,o.data with
   | .type n,.fields vs =>
    if ["enumerate","zip","dict_itemiterator","dict_reverseitemiterator","odict_iterator","itertools.zip_longest","itertools.pairwise"].contains n&&vs[0]?==some (rawInt a) then
     rule "for.unpacks-the-owned-tuple"
     updateField r 0 .none
   | _,_=>pure ():Sem Unit) Q E s:=fun v=>by
  cases v <;> try exact wpAny_pure h
  exact wpAny_bind (wpAny_load g (by rw [hc,hd];dsimp only;rw [hk,if_neg (by simp)];exact wpAny_pure h))
 unfold letOwnedTupleGo
 split
 ·exact key v
 ·exact key v
 ·exact wpAny_pure h
theorem ItObj.junk (x:ItObj s'.heap it) (P:Pre Γ s' R' st') {h0:Heap} (n:h0.get? it=none):Junk Γ R' h0 s'.heap it:=by
 obtain ⟨o,vs,g,hd,hc,_,_⟩:=x
 have f:=P.sat.free_fields g hd
 exact ⟨n,f.1,f.2,o,g,fun v=>by cases v with
  | seq _ _ q=>exact nomatch hd.symm.trans q
  | plain q=>exact nomatch hd.symm.trans q
  | rng _ q _ _=>exact hc q⟩
theorem ItObj.stays (x:ItObj h it) (he:Heap.ExtBut it h h') (fl:List Addr):Stays h fl [it] h':=by
 obtain ⟨o,vs,g,hd,_,_,_⟩:=x
 exact ⟨fun b o _ hb e=>he b o (fun q=>hb (q▸.head _)) e,fun b o' hb hnf e=>⟨o'.slots,he b o' (fun q=>hnf vs (inj_some (q▸g) e▸hd)) e⟩⟩
theorem After.turn {tk:Nat} (K:FxOk Γ.X) (P₀:Pre Γ s R st) (af:After Γ s R s' R' st') (hn:s.heap.get? it=none) (x:ItObj s'.heap it) (he:Heap.ExtBut it s'.heap h'):After Γ s R { s' with heap:=h',toks:=tk } R' st' :=
 have a1:=After.junk (ex:=[it]) K P₀.sat.keep af (junk1 (x.junk af.pre hn)) (x.stays he _)
 a1.trans (After.toks (s:={ s' with heap:=h' }) a1.pre)
theorem IterSt.after (P:Pre Γ s R st) (x:IterSt s.heap R it all wt i) (af:After Γ s R s' R' st'):IterSt s'.heap R' it all wt i:=by
 obtain ⟨o,vs,g,hd,_,_,_⟩:=x.obj
 have f:=P.sat.free_fields g hd
 exact x.mono (fun o' g'=>inj_some g g'▸af.step.same it o g f.1 f.2) (af.keeps9 P)
end
end Ab
end
section
namespace Ab
open PySem PySem.W PySem.Calls PyProof.Rows PyProof.Rows.TI
abbrev NoRel:Rl Unit Unit:=fun _ _ _ _=>True
section
variable {Γ:Cx} {s s':Shared} {R R':Reg} {st st':St} {h':Heap} {L:Nat}
structure Slot0 (X:Fx) (i:Nat) (k:NameKind):Prop where
 at':X.names[i]?=some (X.names.getD i "")
 k:X.env.scope.names.lookup (Str.ofString (X.names.getD i ""))=some k
theorem slot0 {X:Fx} {i:Nat} {k:NameKind} (h:slotK X.names X.env.scope.names i k=true):Slot0 X i k:=⟨names_at (Nat.le_of_ble_eq_true (and_l h)),isK_of (and_r h)⟩
theorem sim_setLoc {i p:Nat} {v:Value} {a:AV} (P:Pre Γ s R st) (K:FxOk Γ.X) (q:Slot0 Γ.X i .local) (r:VRel s.heap R v a) :
  SimAt Γ NoRel (assign (nmE Γ.X.names i p L) Γ.X.env v) (fun Q _=>setFr a i st.fr fun fr=>Q () ⟨fr,st.H⟩) s R:=by
 obtain ⟨m,hm,hf⟩:=P.fr.ns
 show SimAt Γ NoRel (standAt (dp L p) >>= fun _=>bindName Γ.X.env (Str.ofString (Γ.X.names.getD i "")) v) _ s R
 exact .standAt fun Q E hp=>wpP_of (wpAny_bindName (wpAny_storeName_local q.k hm (fun h' hN hs=>⟨(),_,R,(set_fr hp).2,After.setLocal P K q.at' q.k hf hN hs r,trivial⟩) (by rw [K.kind];rfl)))
theorem sim_setCel {i p:Nat} {v:Value} {a:AV} (P:Pre Γ s R st) (K:FxOk Γ.X) (FX:FnFx Γ.X) (q:Slot0 Γ.X i .cell) (r:VRel s.heap R v a) :
  SimAt Γ NoRel (assign (nmE Γ.X.names i p L) Γ.X.env v) (fun Q _=>setFr a i st.fr fun fr=>Q () ⟨fr,st.H⟩) s R:=by
 obtain ⟨c,o,ov,e3,e4,e5,e6⟩:=P.fr.cel i _ q.at' (.inl q.k)
 show SimAt Γ NoRel (standAt (dp L p) >>= fun _=>bindName Γ.X.env (Str.ofString (Γ.X.names.getD i "")) v) _ s R
 refine .standAt fun Q E hp=>wpP_of (wpAny_bindName (wpAny_storeName_cell K.kind q.k e3 ⟨o,e4,e5⟩ (fun h' hc hs=>?_)))
 obtain ⟨o',g,hd⟩:=hc
 exact ⟨(),_,R,(set_fr hp).2,After.setCell (tk:=s.toks) P K q.at' (.inl q.k) e3 (FX.cellCur _ _ q.k e3) (fun b o hb g=>(hs.2 b hb).trans g) g hd r,trivial⟩
theorem setFrs_len {is:List Nat}:∀ {as:List AV} {fr:List (Option AV)} {k:List (Option AV)->Prop},setFrs is as fr k->is.length=as.length:=by
 induction is with
 | nil=>intro as fr k h;exact (congrArg List.length h.1).symm
 | cons i r ih =>
  intro as fr k h
  cases as with
  | nil=>exact h.elim
  | cons a as=>exact congrArg (·+1) (ih (set_fr h).2)
noncomputable abbrev tgs (X:Fx) (L:Nat) (is:List (Nat×Nat)):List Expr:=is.map fun x=>nmE X.names x.1 x.2 L
theorem each_len {X:Fx} (is:List (Nat×Nat)):(assignEach (tgs X L is) X.env).length=is.length/\(assignEach (tgs X L is) X.env).findIdx? (·.1)=none:=by
 induction is with
 | nil=>exact ⟨rfl,rfl⟩
 | cons x r ih =>
  refine ⟨congrArg (·+1) ih.1,?_⟩
  show List.findIdx? _ ((false,_)::assignEach (tgs X L r) X.env)=none
  rw [List.findIdx?_cons,ih.2];rfl
theorem sim_setEach (K:FxOk Γ.X) (is:List (Nat×Nat)):∀ {vs:List Value} {as:List AV} {s:Shared} {R:Reg} {st:St},Pre Γ s R st->(is.all fun x=>slotK Γ.X.names Γ.X.env.scope.names x.1 .local)=true->VRels s.heap R vs as →
  SimAt Γ NoRel (assignInOrder ((assignEach (tgs Γ.X L is) Γ.X.env).map (·.2)) vs) (fun Q _=>setFrs (is.map (·.1)) as st.fr fun fr=>Q () ⟨fr,st.H⟩) s R:=by
 induction is with
 | nil =>
  intro vs as s R st P ha r
  refine .and fun e=>?_
  subst e
  obtain rfl:=r.inv0
  exact .ok P trivial
 | cons x is ih =>
  intro vs as s R st P ha r
  cases as with
  | nil=>exact .no
  | cons a as =>
   obtain ⟨v,us,rfl,r1,r2⟩:=r.inv
   show SimAt Γ NoRel (PySem.holding us (assign (nmE Γ.X.names x.1 x.2 L) Γ.X.env v) >>= fun _=>assignInOrder ((assignEach (tgs Γ.X L is) Γ.X.env).map (·.2)) us) (fun Q _=>setFr a x.1 st.fr fun fr=>setFrs (is.map (·.1)) as fr fun fr=>Q () ⟨fr,st.H⟩) s R
   rw [List.all_cons] at ha
   exact SimAt.bind (p:=fun Q _=>setFr a x.1 st.fr fun fr=>Q () ⟨fr,st.H⟩) (g:=fun _ st1 Q _=>setFrs (is.map (·.1)) as st1.fr fun fr=>Q () ⟨fr,st1.H⟩) (sim_setLoc P K (slot0 (and_l ha)) r1).holding fun b s1 a1 st1 R1 af1 _=>ih af1.pre (and_r ha) (r2.mono (af1.keeps9 P))
theorem sim_assign0 {t:AT0} {v:Value} {a:AV} (hh:Γ.A.handled=none) (P:Pre Γ s R st) (K:FxOk Γ.X) (hc:(∃ i p,t=.cel i p)->FnFx Γ.X) (hr:okT0 Γ.X.names Γ.X.env.scope.names t=true) (r:VRel s.heap R v a) :
  SimAt Γ NoRel (assign (toT0 Γ.X.names L t) Γ.X.env v) (fun Q _=>setT t a st.fr fun fr=>Q () ⟨fr,st.H⟩) s R:=by
 cases t with
 | loc i p=>exact sim_setLoc P K (slot0 hr) r
 | cel i p=>exact sim_setCel P K (hc ⟨i,p,rfl⟩) (slot0 hr) r
 | tup is p =>
  refine .isTup fun as e=>?_
  subst e
  obtain ⟨ta,vs,rfl,ht,_,rv⟩:=r.tup_v
  show SimAt Γ NoRel (standAt (dp L p) >>= fun _=>unpack (.ref ta) (assignEach (tgs Γ.X L is) Γ.X.env)) _ s R
  refine .standAt fun Q E hp=>?_
  unfold unpack
  have q:=each_len (L:=L) (X:=Γ.X) is
  have hl:is.length=vs.toArray.size:=by rw [List.size_toArray,rv.len,<-setFrs_len hp,List.length_map]
  rw [q.1,q.2,hl]
  refine wpP_bind (wpP_holding (wpP_of (wpAny_unpackItems_tuple hh (isTuple_at ht) fun h' hx=>?_)))
  have keep:∀ b o,s.heap.get? b=some o->h'.get? b=some o:=fun b o e=>hx b o (Nat.ne_of_lt (Heap.lt_size e)) e
  have af:=After.keepAll (tk:=s.toks) P keep
  exact wpP_mono (sim_setEach K is af.pre (and_r hr) (rv.mono (keeps9_h keep)) Q E hp) (fun _ _=>Lift.after af) fun _ _=>LiftE.after af
inductive LoopExc (Γ:Cx) (s:Shared) (R:Reg) (E:KX) (x:Value) (s':Shared):Prop
 | mk (c:Nat) (st':St) (R':Reg) (e:Addr) (he:E c st') (af:After Γ s R s' R' st') (q:x=.ref e) (t:Trc s.heap s'.heap e (CA c) (rawInt Γ.X.env.locals))
def LoopPost (Γ:Cx) (s:Shared) (R:Reg) (Q:Fl->St->Prop) (E:KX) (x:Result) (s':Shared):Prop:=match x with
 | .ok f=>Lift Γ FlRel s R Q f s'
 | .error x=>LoopExc Γ s R E x s'
structure Loop (Γ:Cx) (s:Shared) (R:Reg) (st:St):Prop where
 fn:FnFx Γ.X
 frames:Γ.A.frames=some Γ.X.chain
 hh:Γ.A.handled=none
 fx:FxOk Γ.X
 pre:Pre Γ s R st
variable {Q:Fl->St->Prop} {E:KX} {s₀:Shared} {R₀:Reg} {st₀:St}
theorem loop_raise {x:Value} (J:Loop Γ s₀ R₀ st₀) (af:After Γ s₀ R₀ s R st) (ex:LiftE Γ s R E x s') :
  wpP Γ.M Γ.A (do noteFrame x Γ.X.env;theTreesLotGoes x) (fun _ s''=>LoopPost Γ s₀ R₀ Q E (.error x) s'') (fun e s''=>LoopPost Γ s₀ R₀ Q E (.error e) s'') s':=by
 obtain ⟨c,st1,R1,he,af1,ex⟩:=ex
 exact wpP_of (wpAny_bind (note_station J.fn J.frames J.fx J.pre (af.trans af1) (ex.mono af.step.live) fun h' e hx af' tr=>wpAny_theTreesLotGoes ⟨c,st1,R1,e,he,af',hx,tr⟩))
theorem code_block_nil {prog:Program} {w:World} {A:Around} {Rr:Result->Shared->Prop} {env:Env} (h:Rr (.ok .next) s):codeP (model prog w) A (.block [] env) Rr s:=by
 refine codeP_of_tree ?_ rfl
 show wpP _ A (do return Fin.done (← (execs [] env).onRaise (fun x=>do noteFrame x env;theTreesLotGoes x))) _ _ s
 exact wpP_bind (wpP_onRaise (wpP_pure (wpP_pure h)))
theorem loop_body {c:Code} {body:List Stmt} {I:St->Prop} {pt:PT Fl} {k:Flow->Sem Fin} (J:Loop Γ s₀ R₀ st₀) (af:After Γ s₀ R₀ s R st) (hb:SimAt Γ FlRel (execs body Γ.X.env) pt s R) (hp:pt (onNext I Q) E)
  (hc:∀ s' R' st',After Γ s R s' R' st'->After Γ s₀ R₀ s' R' st'->I st'->codeP Γ.M Γ.A c (LoopPost Γ s₀ R₀ Q E) s') (k1:k .next=pure (.again c)) (k2:∀ v,k (.ret v)=pure (.done (.ret v))) (hq:c.quiet=true) :
  wpP Γ.M Γ.A (execs body Γ.X.env >>= k) (fun fin s'=>match fin with|.done f=>LoopPost Γ s₀ R₀ Q E (.ok f) s'|.again c'=>c'.quiet=true/\codeP Γ.M Γ.A c' (LoopPost Γ s₀ R₀ Q E) s')
   (fun x s'=>wpP Γ.M Γ.A (do noteFrame x Γ.X.env;theTreesLotGoes x) (fun _ s''=>LoopPost Γ s₀ R₀ Q E (.error x) s'') (fun e s''=>LoopPost Γ s₀ R₀ Q E (.error e) s'') s') s:=by
 refine wpP_bind (wpP_mono (hb _ _ hp) ?_ fun x s3 ex=>loop_raise J af ex)
 rintro f s3 ⟨fl,st3,R3,hq',af3,rl⟩
 cases rl with
 | next=>rw [k1];exact wpP_pure ⟨hq,hc _ _ _ af3 (af.trans af3) hq'⟩
 | ret r=>rw [k2];exact wpP_pure (show Lift Γ FlRel s₀ R₀ Q _ s3 from ⟨_,st3,R3,hq',af.trans af3,.ret r⟩)
theorem code_for {tgt:AT0} {body:List Stmt} {it:Addr} {fb:St->PT Fl} {all:List AV} {wt:Option Nat} {I:Nat->St->Prop} (J:Loop Γ s₀ R₀ st₀) (hn:s₀.heap.get? it=none) (ht:okT0 Γ.X.names Γ.X.env.scope.names tgt=true)
  (hbody:∀ s R st,Pre Γ s R st->SimAt Γ FlRel (execs body Γ.X.env) (fb st) s R)
  (step:∀ n v st,all[n]?=some v->I n st->stands wt all st.H/\setT tgt v st.fr fun fr=>fb ⟨fr,st.H⟩ (onNext (I (n+1)) Q) E) (fin:∀ st,I all.length st->stands wt all st.H/\Q .next st) :
  ∀ (m i:Nat) (s:Shared) (R:Reg) (st:St),i + m=all.length->IterSt s.heap R it all wt i->After Γ s₀ R₀ s R st->I i st →
   codeP Γ.M Γ.A (.forLoop (toT0 Γ.X.names L tgt) (.ref it) body [] Γ.X.env) (LoopPost Γ s₀ R₀ Q E) s:=by
 intro m
 induction m with
 | zero =>
  intro i s R st hi x af hI
  obtain rfl:i=all.length:=hi
  have f:=fin st hI
  refine codeP_of_tree ?_ rfl
  show wpP _ Γ.A ((forTurn (toT0 Γ.X.names L tgt) (.ref it) body [] Γ.X.env).onRaise (fun x=>do noteFrame x Γ.X.env;theTreesLotGoes x)) _ _ s
  refine wpP_onRaise ?_
  unfold forTurn
  refine wpP_bind (wpP_standAt (wpP_bind (wpP_onRaise (wpP_of (iter_next J.hh af.pre x f.1 (Nat.le_refl _) (fun a v h' tk e=>?_) fun h' _ he=>?_)))))
  ·exact absurd (List.getElem?_eq_some_iff.mp e).1 (Nat.lt_irrefl _)
  ·exact wpP_pure ⟨rfl,code_block_nil (show Lift Γ FlRel s₀ R₀ Q _ _ from ⟨.next,st,R,f.2,After.turn (tk:=s.toks) J.fx J.pre af hn x.obj he,.next⟩)⟩
 | succ m ih =>
  intro i s R st hi x af hI
  have hlt:i < all.length:=hi▸Nat.lt_add_of_pos_right (Nat.succ_pos m)
  have f:=step i _ st (List.getElem?_eq_getElem hlt) hI
  refine codeP_of_tree ?_ rfl
  show wpP _ Γ.A ((forTurn (toT0 Γ.X.names L tgt) (.ref it) body [] Γ.X.env).onRaise (fun x=>do noteFrame x Γ.X.env;theTreesLotGoes x)) _ _ s
  refine wpP_onRaise ?_
  unfold forTurn
  refine wpP_bind (wpP_standAt (wpP_bind (wpP_onRaise (wpP_of (iter_next J.hh af.pre x f.1 (Nat.le_of_lt hlt) (fun a v h' tk e rv he x'=>?_) fun h' e _=>?_)))))
  case refine_2=>exact absurd (get_out e) (Nat.not_le.mpr hlt)
  obtain rfl:=inj_some (List.getElem?_eq_getElem hlt) e
  have af1:After Γ s₀ R₀ { s with heap:=h',toks:=tk } R st:=After.turn J.fx J.pre af hn x.obj he
  refine wpP_bind (wpP_of (x'.obj.notOwned (s:={ s with heap:=h',toks:=tk }) ?_))
  refine wpP_bind (wpP_mono (sim_assign0 J.hh af1.pre J.fx (fun _=>J.fn) ht (rv.mono (x.obj.keeps9 he)) (fun _ st'=>fb st' (onNext (I (i+1)) Q) E) (fun _ _=>False) f.2) ?_ fun _ _ x=>x.casesOn fun _ _ _ h=>h.elim)
  rintro u s2 ⟨_,st2,R2,hq,af2,_⟩
  have x2:=x'.after (s:={ s with heap:=h',toks:=tk }) af1.pre af2
  refine loop_body (c:=.forLoop (toT0 Γ.X.names L tgt) (.ref it) body [] Γ.X.env) J (af1.trans af2) (hbody s2 R2 _ af2.pre) hq (fun s3 R3 st3 a3 a03 hI3=>ih (i+1) s3 R3 st3 (by rw [Nat.succ_add];exact hi) (x2.after af2.pre a3) a03 hI3) rfl (fun v=>rfl) rfl
theorem code_while {test:Expr} {body:List Stmt} {fc:St->PT Bool} {fb:St->PT Fl} {I:Nat->St->Prop} (J:Loop Γ s₀ R₀ st₀)
  (hcond:∀ s R st,Pre Γ s R st->SimAt Γ BoolRel (isTrue test Γ.X.env (eval test Γ.X.env)) (fc st) s R) (hbody:∀ s R st,Pre Γ s R st->SimAt Γ FlRel (execs body Γ.X.env) (fb st) s R)
  (step:∀ n st,I n st->fc st (fun t st=>ifb t (fb st (onNext (fun st=>∃ m,m < n/\I m st) Q) E) (Q .next st)) E) (n:Nat) :
  ∀ (s:Shared) (R:Reg) (st:St),After Γ s₀ R₀ s R st->I n st->codeP Γ.M Γ.A (.whileLoop test body [] Γ.X.env) (LoopPost Γ s₀ R₀ Q E) s:=by
 induction n using Nat.strongRecOn with
 | ind n ih =>
  intro s R st af hI
  refine codeP_of_tree ?_ rfl
  show wpP _ Γ.A ((whileTurn test body [] Γ.X.env).onRaise (fun x=>do noteFrame x Γ.X.env;theTreesLotGoes x)) _ _ s
  refine wpP_onRaise ?_
  unfold whileTurn
  refine wpP_bind (wpP_mono (hcond s R st af.pre _ _ (step n st hI)) ?_ fun x s3 ex=>loop_raise J af ex)
  rintro b s1 ⟨b',st1,R1,hq,af1,hb⟩
  obtain rfl:b=b':=hb
  have afc:=af.trans af1
  cases b with
  | false=>exact wpP_bind (wpP_pure (wpP_pure (show Lift Γ FlRel s₀ R₀ Q _ s1 from ⟨.next,st1,R1,hq,afc,.next⟩)))
  | true=>exact loop_body (c:=.whileLoop test body [] Γ.X.env) J afc (hbody s1 R1 st1 af1.pre) hq (fun s3 R3 st3 a3 a03 hI3=>hI3.elim fun m q=>ih m q.1 s3 R3 st3 a03 q.2) rfl (fun v=>rfl) rfl
theorem sim_runOwn {c:Code} (J:Loop Γ s₀ R₀ st₀) (h:codeP Γ.M Γ.A c (LoopPost Γ s₀ R₀ Q E) s):wpP Γ.M Γ.A (runOwn c Γ.X.env) (Lift Γ FlRel s₀ R₀ Q) (LiftE Γ s₀ R₀ E) s:=by
 unfold runOwn
 refine wpP_onRaise (wpP_run (codeP_mono (A:=Γ.A) h fun x s' hx=>?_))
 rcases x with x|f
 ·obtain ⟨c,st',R',e,he,af,rfl,tr⟩:=hx
  obtain ⟨T,oe,vs,oT,ts,n,nT,ne,g,cc,d,x1,gT,dT,x3⟩:=id tr
  refine wpP_of (wpAny_bind (wpAny_field g d x1 ?_))
  rw [if_neg (by simp)]
  exact flight_station (fl:=Γ.X.env.frame) J.fx J.pre af tr fun h' af2 tr2=>⟨c,st',R',he,af2,tr2.exc (.inr (by rw [J.fn.frame];exact ⟨_,rfl,rfl⟩))⟩
 ·exact hx
end
end Ab
end
section
namespace Ab
open PySem PySem.W PySem.Calls PyProof.Rows PyProof.Rows.TI
section
variable {outer:List (Option AV)} {caps:List (Nat×Nat)} {j j' i:Nat}
noncomputable abbrev capF (outer:List (Option AV)) (fr:List (Option AV)) (c:Nat×Nat):List (Option AV):=fr.set c.1 (outer[c.2]?.join)
theorem cap_none:∀ {fr:List (Option AV)},caps.filter (·.1==j)=[]->(caps.foldl (capF outer) fr)[j]?=fr[j]?:=by
 induction caps with
 | nil=>exact fun _=>rfl
 | cons c r ih =>
  intro fr h
  rw [List.filter_cons] at h
  by_cases hc:c.1==j
  ·rw [if_pos hc] at h;cases h
  ·rw [if_neg hc] at h
   rw [List.foldl_cons,ih h,List.getElem?_set_ne fun q=>hc (beq_iff_eq.mpr q)]
theorem cap_len:∀ {fr:List (Option AV)},(caps.foldl (capF outer) fr).length=fr.length:=by
 induction caps with
 | nil=>exact rfl
 | cons c r ih=>intro fr;rw [List.foldl_cons,ih,List.length_set]
theorem cap_one:∀ {fr:List (Option AV)},caps.filter (·.1==j)=[(j',i)]->j < fr.length->(caps.foldl (capF outer) fr)[j]?=some (outer[i]?.join):=by
 induction caps with
 | nil=>exact fun h=>nomatch h
 | cons c r ih =>
  intro fr h hj
  rw [List.filter_cons] at h
  rw [List.foldl_cons]
  by_cases hc:c.1==j
  ·rw [if_pos hc] at h
   have h:=List.cons.inj h
   rw [cap_none h.2,<-beq_iff_eq.mp hc,List.getElem?_set_self ((beq_iff_eq.mp hc).symm▸hj),h.1]
  ·rw [if_neg hc] at h
   exact ih h (by rw [List.length_set];exact hj)
end
noncomputable def closeOf (cells:List (Str×Addr)):List (Str×NameKind)->List (Str×Addr)->List (Str×Addr)
 | [],acc=>acc
 | p::r,acc=>if p.2==.free then Option.casesOn (cells.lookup p.1) (closeOf cells r acc) fun c=>closeOf cells r ((p.1,c)::acc) else closeOf cells r acc
section
variable {cells:List (Str×Addr)} {n:Str} {names:List (Str×NameKind)}
theorem close_free {p:Str×NameKind} {r:List (Str×NameKind)} {acc:List (Str×Addr)} {c:Addr} (hk:p.2=.free) (hc:cells.lookup p.1=some c):closeOf cells (p::r) acc=closeOf cells r ((p.1,c)::acc):=by
 rw [closeOf,if_pos (beq_iff_eq.mpr hk),hc]
theorem close_gone {p:Str×NameKind} {r:List (Str×NameKind)} {acc:List (Str×Addr)} (hk:p.2=.free) (hc:cells.lookup p.1=none):closeOf cells (p::r) acc=closeOf cells r acc:=by
 rw [closeOf,if_pos (beq_iff_eq.mpr hk),hc]
theorem close_skip {p:Str×NameKind} {r:List (Str×NameKind)} {acc:List (Str×Addr)} (hk:p.2≠.free):closeOf cells (p::r) acc=closeOf cells r acc:=by
 rw [closeOf,if_neg fun q=>hk (beq_iff_eq.mp q)]
theorem closureFor_go {env:Env} (names:List (Str×NameKind)):∀ (acc:List (Str×Addr)),(∀ n,(n,NameKind.free)∈names->(env.cells.lookup n).isSome) →
  (forIn names acc fun x cs=>(match x with|(name,kind)=>if kind==.free then (do let a ← cellOf env name;pure (ForInStep.yield ((name,a)::cs))) else pure (ForInStep.yield cs):Sem (ForInStep (List (Str×Addr)))))=pure (closeOf env.cells names acc):=by
 induction names with
 | nil=>intro acc _;rw [List.forIn_nil];rfl
 | cons p r ih =>
  intro acc h
  obtain ⟨n,k⟩:=p
  rw [List.forIn_cons]
  have hr:=fun m hm=>h m (.tail _ hm)
  by_cases hk:k=.free
  ·subst hk
   obtain ⟨c,hc⟩:=Option.isSome_iff_exists.mp (h n (.head _))
   rw [close_free (p:=(n,.free)) rfl hc,<-ih _ hr]
   have e:cellOf env n=pure c:=by unfold cellOf;rw [hc]
   simp only [e,beq_self_eq_true,if_true]
   rfl
  ·rw [close_skip (p:=(n,k)) hk,<-ih _ hr]
   simp only [beq_eq_false_iff_ne.mpr hk,Bool.false_eq_true,if_false]
   rfl
theorem closureFor_eq {scope:Scope} {env:Env} (h:∀ n,(n,NameKind.free)∈scope.names->(env.cells.lookup n).isSome):closureFor scope env=pure (closeOf env.cells scope.names []):=by
 unfold closureFor
 exact congrArg (fun t:Sem (List (Str×Addr))=>t >>= fun r=>pure r) (closureFor_go (env:=env) scope.names [] h)
theorem look_cons {α:Type} {m:Str} {v c:α} {r:List (Str×α)} (h:((m,v)::r).lookup n=some c):(n=m/\v=c)\/r.lookup n=some c:=by
 by_cases hq:n=m
 ·subst hq;rw [look_hit] at h;exact .inl ⟨rfl,Option.some.inj h⟩
 ·rw [look_miss hq] at h;exact .inr h
theorem close_sub {c:Addr}:∀ {acc:List (Str×Addr)},(closeOf cells names acc).lookup n=some c->acc.lookup n=some c\/cells.lookup n=some c:=by
 induction names with
 | nil=>exact fun h=>.inl h
 | cons p r ih =>
  intro acc h
  by_cases hk:p.2=.free
  ·cases hd:cells.lookup p.1 with
   | none=>rw [close_gone hk hd] at h;exact ih h
   | some d =>
    rw [close_free hk hd] at h
    exact (ih h).elim (fun h=>(look_cons h).elim (fun q=>.inr (by rw [q.1,hd,q.2])) .inl) .inr
  ·rw [close_skip hk] at h;exact ih h
theorem close_has:∀ {acc:List (Str×Addr)},((n,NameKind.free)∈names/\(cells.lookup n).isSome)\/(acc.lookup n).isSome->((closeOf cells names acc).lookup n).isSome:=by
 induction names with
 | nil=>exact fun h=>h.elim (fun h=>nomatch h.1) id
 | cons p r ih =>
  intro acc h
  obtain ⟨m,k⟩:=p
  have step:(n,NameKind.free)∈(m,k)::r->(n=m/\k=.free)\/(n,NameKind.free)∈r:=fun h=>(List.mem_cons.mp h).imp (fun e=>by cases e;exact ⟨rfl,rfl⟩) id
  by_cases hk:k=.free
  ·cases hd:cells.lookup m with
   | none =>
    rw [close_gone (p:=(m,k)) hk hd]
    exact ih (h.imp (fun h=>⟨(step h.1).elim (fun q=>by rw [q.1,hd] at h;cases h.2) id,h.2⟩) id)
   | some d =>
    rw [close_free (p:=(m,k)) hk hd]
    refine ih ?_
    by_cases hq:n=m
    ·subst hq;rw [look_hit];exact .inr rfl
    ·rw [look_miss hq];exact h.imp (fun h=>⟨(step h.1).elim (fun q=>absurd q.1 hq) id,h.2⟩) id
  ·rw [close_skip (p:=(m,k)) hk]
   exact ih (h.imp (fun h=>⟨(step h.1).elim (fun q=>absurd q.2 hk) id,h.2⟩) id)
end
noncomputable abbrev cScope (s:List (String×NameKind)):Scope:=⟨.function,scopeOf s,false,false,[]⟩
def compFx (scope:Scope) (cl:List (Str×Addr)) (D:Addr) (ns:List String) (X:Fx):Fx where
 env:=compEnvC scope cl D X.env
 names:=ns
 cur:=[D]
 fs:=X.own
 chain:=X.chain
structure CompOk (X:Fx) (ns:List String) (s:List (String×NameKind)) (caps:List (Nat×Nat)) (tgt:AT0):Prop where
 nodup:ns.Nodup
 nms:okN ns=true
 noCell:∀ x∈scopeOf s,x.2≠.cell
 caps:capsOk X.names X.env.scope.names ns (scopeOf s) caps=true
 keys:((scopeOf s).map (·.1)).Nodup
 free:∀ p∈scopeOf s,p.2=.free->∃ x∈ns,Str.ofString x=p.1
 noCel:¬ ∃ i p,tgt=.cel i p
 tgt:okT0 ns (compSc X.env.scope.names (scopeOf s)) tgt=true
theorem compOk_of {X:Fx} {ns:List String} {s:List (String×NameKind)} {caps:List (Nat×Nat)} {tgt:AT0} (h:okC X.names X.env.scope.names ns (scopeOf s) caps tgt=true):CompOk X ns s caps tgt:=by
 have h1:=and_l h
 have h2:=and_l h1
 have h3:=and_l h2
 have h4:=and_l h3
 have h5:=and_l h4
 have h6:=and_l h5
 refine ⟨of_decide_eq_true (and_l h6),and_r h6,fun x hx q=>?_,and_r h4,of_decide_eq_true (and_r h3),fun p hp hf=>?_,?_,and_r h⟩
 ·have:=List.all_eq_true.mp (and_r h5) x hx
  rw [q] at this;cases this
 ·have:=List.all_eq_true.mp (and_r h2) p hp
  rw [hf] at this
  obtain ⟨x,hx,e⟩:=List.any_eq_true.mp this
  exact ⟨x,hx,beq_iff_eq.mp e⟩
 ·rintro ⟨i,p,rfl⟩
  exact nomatch and_r h1
inductive CapAt (X:Fx) (inner:Sc) (caps:List (Nat×Nat)) (j:Nat) (x:String):Prop
 | no (e:caps.filter (·.1==j)=[]) (k:inner.lookup (Str.ofString x)=some .local)
 | one (j' i:Nat) (e:caps.filter (·.1==j)=[(j',i)]) (k:inner.lookup (Str.ofString x)=some .free) (h:slotC X.names X.env.scope.names i=true) (q:Str.ofString (X.names.getD i "")=Str.ofString x)
section
variable {Γ:Cx} {s s':Shared} {R R':Reg} {st st':St} {h':Heap} {L:Nat} {X:Fx} {ns:List String} {sc:List (String×NameKind)} {caps:List (Nat×Nat)} {tgt:AT0}
theorem getD_of {N:List String} {j:Nat} {x:String} (h:N[j]?=some x):N.getD j ""=x:=by rw [List.getD_eq_getElem?_getD,h];rfl
theorem cap_at (O:CompOk X ns sc caps tgt) {j:Nat} {x:String} (hj:ns[j]?=some x):CapAt X (scopeOf sc) caps j x:=by
 have h:=List.all_eq_true.mp O.caps j (List.mem_range.mpr (List.getElem?_eq_some_iff.mp hj).1)
 rw [getD_of hj] at h
 cases e:caps.filter (·.1==j) with
 | nil=>rw [e] at h;exact .no e (isK_of h)
 | cons c r =>
  cases r with
  | nil=>obtain ⟨j',i⟩:=c;rw [e] at h;exact .one j' i e (isK_of (and_l (and_l h))) (and_r (and_l h)) (beq_iff_eq.mp (and_r h))
  | cons d r=>rw [e] at h;exact nomatch h
theorem slotc_at {i:Nat} (h:slotC X.names X.env.scope.names i=true):X.names[i]?=some (X.names.getD i "")/\isCellK (X.env.scope.names.lookup (Str.ofString (X.names.getD i ""))) :=
 ⟨names_at (Nat.le_of_ble_eq_true (and_l h)),((Bool.or_eq_true _ _).mp (and_r h)).imp isK_of isK_of⟩
theorem compSc_lookup {sc inner:Sc} {x:Str}:(compSc sc inner).lookup x=(inner.lookup x).map fun k=>if k==.free&&sc.lookup x==some .cell then .cell else k:=by
 induction inner with
 | nil=>rfl
 | cons p r ih =>
  obtain ⟨n,k⟩:=p
  show List.lookup x ((if (k==NameKind.free&&sc.lookup n==some NameKind.cell)=true then (n,NameKind.cell) else (n,k))::compSc sc r)=_
  by_cases hx:x=n
  ·subst hx
   rw [look_hit,Option.map_some]
   by_cases hq:(k==NameKind.free&&sc.lookup x==some NameKind.cell)=true
   ·rw [if_pos hq,if_pos hq,look_hit]
   ·rw [if_neg hq,if_neg hq,look_hit]
  ·rw [look_miss hx,<-ih]
   by_cases hq:(k==NameKind.free&&sc.lookup n==some NameKind.cell)=true
   ·rw [if_pos hq,look_miss hx]
   ·rw [if_neg hq,look_miss hx]
theorem relabel_names {scope:Scope} {env:Env} (hk:env.scope.kind=.function):(relabel scope env).names=compSc env.scope.names scope.names:=by
 unfold relabel compSc
 simp only
 congr 1
 funext p
 simp only [hk,beq_self_eq_true,Bool.and_true,Env.kindOf]
inductive CellOf (Γ:Cx) (h:Heap) (n:Str):Prop
 | mk (c:Addr) (i:Nat) (e:Γ.X.env.cells.lookup n=some c)
theorem cell_of_free (P:Pre Γ s R st) (O:CompOk Γ.X ns sc caps tgt) {n:Str} (hn:(n,NameKind.free)∈scopeOf sc):(Γ.X.env.cells.lookup n).isSome:=by
 obtain ⟨x,hx,e⟩:=O.free _ hn rfl
 obtain ⟨j,hj⟩:=List.getElem?_of_mem hx
 have e:Str.ofString x=n:=e
 cases cap_at O hj with
 | no _ h2=>rw [e,lookup_of_mem O.keys hn] at h2;cases h2
 | one j' i _ _ h3 q =>
  have z:=slotc_at h3
  obtain ⟨c,o,ov,hc,_,_,_⟩:=P.fr.cel i _ z.1 z.2
  rw [<-e,<-q,hc];rfl
noncomputable abbrev compX (Γ:Cx) (D:Addr) (ns:List String) (sc:List (String×NameKind)):Fx:=compFx (cScope sc) (closeOf Γ.X.env.cells (scopeOf sc) []) D ns Γ.X
theorem compX_names {D:Addr} (K:FxOk Γ.X):(compX Γ D ns sc).env.scope.names=compSc Γ.X.env.scope.names (scopeOf sc):=relabel_names (scope:=cScope sc) K.kind
theorem comp_sub {n:Str} {c:Addr} (e:(closeOf Γ.X.env.cells (scopeOf sc) []).lookup n=some c):Γ.X.env.cells.lookup n=some c:=(close_sub e).elim nofun id
theorem own_old (P:Pre Γ s R st):∀ b∈Γ.X.own,b≠s.heap.objs.size:=fun b hb q=>(P.sat.frs b hb).casesOn fun o g _=>some_ne (get_size_none _) (q▸g)
theorem compX_ok (P:Pre Γ s R st) (K:FxOk Γ.X) (O:CompOk Γ.X ns sc caps tgt):FxOk (compX Γ s.heap.objs.size ns sc) where
 kind:=rfl
 globals:=K.globals
 builtins:=K.builtins
 nodup:=O.nodup
 loc:=.head _
 cells x c e:=List.mem_append_right _ (K.cells x c (comp_sub e))
 cellNe x c e:=own_old P c (K.cells x c (comp_sub e))
 cellInj x y c e1 e2:=K.cellInj x y c (comp_sub e1) (comp_sub e2)
 chainIn env he L hL:=List.mem_append_right _ (K.chainIn env he L hL)
theorem Pre.comp (P:Pre Γ s R st) (K:FxOk Γ.X) (O:CompOk Γ.X ns sc caps tgt) (hN:h'.Ns s.heap.objs.size fun x=>([]:List (Str×Value)).reverse.lookup x)
  (keep:∀ b o,s.heap.get? b=some o->h'.get? b=some o):Pre ⟨Γ.G,Γ.A,compX Γ s.heap.objs.size ns sc⟩ { s with heap:=h' } R ⟨capture caps st.fr ns.length,st.H⟩:=by
 have k9:Keeps9 s.heap R h' R:=keeps9_h keep
 have S1:=P.sat.keepAll keep
 have look {x:Str}:(compX Γ s.heap.objs.size ns sc).env.scope.names.lookup x=((scopeOf sc).lookup x).map fun k=>if k==.free&&Γ.X.env.scope.names.lookup x==some .cell then .cell else k:=by rw [compX_names K,compSc_lookup]
 refine ⟨P.gens,⟨S1.keep,S1.newR,fun b hb=>?_,?_,S1.inj,S1.len,S1.objs,fun b hb=>?_⟩,⟨?_,⟨_,hN,fun i x v e1 e2 e3=>?_⟩,fun i x e1 e2=>?_⟩,P.ff.of_keeps fun b o e _=>⟨o,keep b o e,rfl⟩⟩
 ·exact (List.mem_cons.mp hb).elim (fun q=>by rw [q];exact none_B P.sat (get_size_none _)) (P.sat.newC b)
 ·exact (List.perm_middle.nodup_iff).mpr (List.nodup_cons.mpr ⟨P.sat.newAt (get_size_none _),P.sat.nodup⟩)
 ·exact (List.mem_cons.mp hb).elim (fun q=>by rw [q];exact ns_owned hN) (S1.frs b)
 ·exact cap_len.trans List.length_replicate
 ·exfalso
  rw [look] at e3
  cases cap_at O e1 with
  | no h1 _ =>
   have e2:(caps.foldl (capF st.fr) (List.replicate ns.length none))[i]?=some (some v):=e2
   rw [cap_none h1,List.getElem?_replicate] at e2
   split at e2 <;> cases e2
  | one j' k h1 h2 _ _ =>
   rw [h2,Option.map_some] at e3
   have e3:=Option.some.inj e3
   split at e3 <;> cases e3
 ·have e2:isCellK ((compX Γ s.heap.objs.size ns sc).env.scope.names.lookup (Str.ofString x)):=e2
  rw [look] at e2
  have e1:ns[i]?=some x:=e1
  cases cap_at O e1 with
  | no _ h2 =>
   rw [h2] at e2
   exact e2.elim nofun nofun
  | one j' k h1 h2 h3 q =>
   have z:=slotc_at h3
   obtain ⟨c,o,ov,hc,g,hd,hv⟩:=P.fr.cel k _ z.1 z.2
   obtain ⟨c',hc'⟩:=Option.isSome_iff_exists.mp (close_has (cells:=Γ.X.env.cells) (acc:=[]) (.inl ⟨mem_of_lookup h2,by rw [<-q,hc];rfl⟩))
   obtain rfl:c=c':=inj_some hc (q▸comp_sub hc')
   refine ⟨c,o,ov,hc',keep _ _ g,hd,fun a ha=>?_⟩
   have ha:(caps.foldl (capF st.fr) (List.replicate ns.length none))[i]?=some (some a):=ha
   rw [cap_one h1 (by rw [List.length_replicate];exact (List.getElem?_eq_some_iff.mp e1).1)] at ha
   exact (hv a (Option.join_eq_some_iff.mp (Option.some.inj ha))).elim fun v e=>⟨v,e.1,e.2.mono k9⟩
end
end Ab
end
section
namespace Ab
open PySem PySem.W PySem.Calls PyProof.Rows PyProof.Rows.TI
section
variable {prog:Program} {w:World} {A:Around} {s:Shared}
def CompPost (M:Model) (A:Around) (E:Value->Shared->Prop) (use:Option (Value->Sem Unit)) (Q:Value->Shared->Prop) (acc:Value) (D:Addr) (r:Result) (s':Shared):Prop :=
 match r,use with
 | .ok _,none=>∃ m,s'.heap.Ns D m/\∀ h',Heap.SameBut D s'.heap h'->Q acc { s' with heap:=h' }
 | .ok _,some u=>wpP M A (u acc) (fun _ s''=>∃ m,s''.heap.Ns D m/\∀ h',Heap.SameBut D s''.heap h'->Q .none { s'' with heap:=h' }) E s'
 | .error _,_=>False
theorem wpP_comprehension {M:Model} {e:Expr} {scope:Scope} {env:Env} {pos:Pos} {newAcc first:Sem Value} {g:Comprehension} {gs:List Comprehension} {cl:List (Str×Addr)} {use:Option (Value->Sem Unit)}
  {Q:Value->Shared->Prop} {E:Value->Shared->Prop} (hcl:clausesOf e=g::gs) (hs:∀ x,foldedSetIterable g.iter env x=pure x) (hclos:closureFor scope env=pure cl)
  (hkind:scope.kind=.function) (hnames:∀ x∈scope.names,x.2=.local->scope.names.lookup x.1=some .local)
  (h:wpP M A first (fun x s₁=>wpP M A (pyIter x) (fun it s₂=>wpP M A newAcc (fun acc s₃ =>
   wpP M A (newFunctionEnv scope env.globals cl [] env.qual none .none (some env)) (fun cenv s₄ =>
    codeP M A (.compStart e 0 it acc { cenv with scope:=relabel scope env }) (CompPost M A E use Q acc cenv.locals) s₄) E s₃) E s₂) E s₁) E s) :
  wpP M A (comprehension e scope env pos newAcc false first use) Q E s:=by
 unfold comprehension
 rw [hclos,hcl]
 refine wpP_bind (wpP_mono h (fun x s₁ h₁=>wpP_bind (wpP_standAt (wpP_bind ?_))) fun _ _ h'=>h')
 rw [hs x]
 refine wpP_pure (wpP_bind (wpP_holding (wpP_mono h₁ (fun it s₂ h₂=>?_) fun _ _ h'=>h')))
 have key:∀ (t:PUnit->Sem Value),wpP M A (t ()) Q E s₂->wpP M A (if use.isSome=true then (standAt e.pos >>= t) else t ()) Q E s₂:=fun t ht=>by
  split
  ·exact wpP_bind (wpP_standAt ht)
  ·exact ht
 refine key _ ?_
 refine wpP_bind (wpP_mono h₂ (fun acc s₃ h₃=>wpP_bind (wpP_pure (wpP_bind (wpP_mono h₃ (fun cenv s₄ h₄=>?_) fun _ _ h'=>h')))) fun _ _ h'=>h')
 dsimp only
 have hv:∀ x∈(scope.names.filter fun x=>(x.2==.local || x.2==.cell)&&x.1 != (".0":Str)).reverse,x.2=.local →
   Env.kindOf { cenv with scope:=relabel scope env } x.1=some .local:=fun x hx hl=>lookup_relabel_local (hnames x (List.mem_filter.mp (List.mem_reverse.mp hx)).1 hl)
 have hv':∀ x∈(scope.names.filter fun x=>(x.2==.local || x.2==.cell)&&x.1 != (".0":Str)).reverse.drop 1++(scope.names.filter fun x=>(x.2==.local || x.2==.cell)&&x.1 != (".0":Str)).reverse.take 1,
   x.2=.local->Env.kindOf { cenv with scope:=relabel scope env } x.1=some .local:=fun x hx hl=>(List.mem_append.mp hx).elim (fun h1=>hv x (List.mem_of_mem_drop h1) hl) fun h1=>hv x (List.mem_of_mem_take h1) hl
 refine wpP_holding (wpP_bind (wpP_attempt (wpP_holding (wpP_run (codeP_mono (A:=A) h₄ fun r s' hr=>?_)))))
 cases r with
 | ok f =>
  cases use with
  | none =>
   obtain ⟨m,hn,hr⟩:=hr
   exact wpP_bind (wpP_holding (wpP_of (wpAny_comp_letGo (cenv:={ cenv with scope:=relabel scope env }) hkind _ s' m hv hn fun h' m' _ hs'=>wpP_pure (hr h' hs'))))
  | some u =>
   refine wpP_bind (wpP_of (wpAny_rule (wpP_bind (wpP_holding (wpP_mono hr (fun _ s'' hr'=>?_) fun _ _ h'=>h')))))
   obtain ⟨m,hn,hr'⟩:=hr'
   exact wpP_bind (wpP_of (wpAny_comp_letGo (cenv:={ cenv with scope:=relabel scope env }) hkind _ s'' m hv' hn fun h' m' _ hs'=>wpP_pure (hr' h' hs')))
 | error x=>cases use <;> exact hr.elim
theorem codeP_compStart {elt target iter:Expr} {ifs:List Expr} {rest:List Comprehension} {scope:Scope} {pos:Pos} {it acc:Value} {env:Env} {Rr:Result->Shared->Prop}
  (h0:codeP (model prog w) A (.compLoop (.ListComp elt (⟨target,iter,ifs,0⟩::rest) scope pos) 0 it acc env) Rr s)
  (h:∀ {Q:Value->Shared->Prop} {E:Value->Shared->Prop},Q it s->wpAny (model prog w) A (pyIter it) Q E s) :
  codeP (model prog w) A (.compStart (.ListComp elt (⟨target,iter,ifs,0⟩::rest) scope pos) 0 it acc env) Rr s:=by
 refine codeP_of_tree ?_ rfl
 show wpP _ A ((compStart (.ListComp elt (⟨target,iter,ifs,0⟩::rest) scope pos) 0 it acc env).onRaise (fun x=>do noteFrame x env;standAt theWindowsPlace)) _ _ s
 refine wpP_onRaise ?_
 unfold compStart
 show wpP _ A (ask >>= _) _ _ s
 refine wpP_bind (wpP_of (wpAny_askSetting ?_))
 split
 ·first
  | exact wpP_bind (wpP_pure (wpP_pure (And.intro rfl h0)))
  | exact wpP_pure (And.intro rfl h0)
 ·refine wpP_bind (wpP_of (wpAny_rule ?_))
  show wpP _ A (standAt iter.pos >>= _) _ _ s
  exact wpP_bind (wpP_standAt (wpP_bind (wpP_of (h (wpP_pure (And.intro rfl h0))))))
abbrev testsOf (ifs:List Expr) (env:Env):Sem Bool:=forIn ifs true fun c r=>if r=true then do let ok ← isTrue c env (eval c env);pure (ForInStep.yield ok) else pure (ForInStep.yield r)
theorem compTurn_eq (elt target iter:Expr) (ifs:List Expr) (scope:Scope) (pos:Pos) (it acc:Value) (env:Env) :
  compTurn (.ListComp elt [⟨target,iter,ifs,0⟩] scope pos) 0 it acc env=(standAt iter.pos >>= fun _=>pyNext it >>= fun r=>match r with
   | none=>pure (.done .next)
   | some v=>letOwnedTupleGo target it v >>= fun _=>assign target env v >>= fun _=>testsOf ifs env >>= fun ok =>
     if ok=true then (eval elt env >>= fun x=>call (.builtin "list.append") [acc,x] >>= fun _=>pure ()) >>= fun _=>again (.compLoop (.ListComp elt [⟨target,iter,ifs,0⟩] scope pos) 0 it acc env)
     else again (.compLoop (.ListComp elt [⟨target,iter,ifs,0⟩] scope pos) 0 it acc env)):=by rfl
end
section
variable {Γ:Cx} {s s₀ s':Shared} {R R₀ R':Reg} {st st₀ st':St} {h':Heap} {L n:Nat} {C:Call} {ns:List String} {sc:List (String×NameKind)} {caps:List (Nat×Nat)} {tgt:AT0} {elt it cond:AE} {all:List AV} {wt:Option Nat}
theorem sim_tests (h:ST L n C cond) (O:Ok Γ n C) (P:Pre Γ s R st) (hx:(isAbs cond || okE L cond Γ.X.names Γ.X.env.scope.names)=true) :
  SimAt Γ BoolRel (testsOf (optE cond (toE L cond Γ.X.names)).toList Γ.X.env) (fun Q E=>vE T C cond st (fun c st=>compK cond c (Q true st) (Q false st)) E) s R:=by
 cases ha:isAbs cond with
 | true =>
  obtain rfl:=isAbs_eq ha
  exact .ok P rfl
 | false =>
  rw [ha] at hx
  unfold optE compK testsOf
  rw [ha]
  show SimAt Γ BoolRel (forIn [toE L cond Γ.X.names] true _) (fun Q E=>vE T C cond st (fun c st=>c.isBool fun b=>ifb b (Q true st) (Q false st)) E) s R
  rw [List.forIn_cons,if_pos rfl]
  have e1:∀ Q:Bool->St->Prop,(fun c st=>c.isBool fun b=>ifb b (Q true st) (Q false st):KV)=fun c st=>c.isBool fun b=>Q b st:=fun Q=>funext fun c=>funext fun st=>by
   cases c <;> try rfl
   rename_i b
   cases b <;> rfl
  intro Q E hp
  rw [e1] at hp
  exact wpP_bind (wpP_bind (wpP_mono (h _ s R st O P hx Q E hp) (fun b s1 x=>wpP_pure (wpP_pure x)) fun _ _ x=>x))
noncomputable abbrev eltP (elt:AE) (C:Call) (l:Nat) (k:St->Prop) (st:St):Prop:=vE T C elt st (fun y st3=>Lst st3.H l fun xs=>xs.length < LIM/\k ⟨st3.fr,st3.H.set l (.list (xs++[y]))⟩) fun _ _=>False
noncomputable abbrev condP (cond elt:AE) (C:Call) (l:Nat) (k:St->Prop) (st:St):Prop:=vE T C cond st (fun c st2=>compK cond c (eltP elt C l k st2) (k st2)) fun _ _=>False
noncomputable abbrev bodyP (tgt:AT0) (cond elt:AE) (C:Call) (l:Nat) (v:AV) (st:St) (k:St->Prop):Prop:=setT tgt v st.fr fun fr=>condP cond elt C l k ⟨fr,st.H⟩
structure Turns (Γ:Cx) (L n:Nat) (C:Call) (tgt:AT0) (cond elt:AE) (s:Shared) (R:Reg) (st:St) (l:Nat) (D:Addr):Prop where
 O:Ok Γ n C
 P:Pre Γ s R st
 tg:okT0 Γ.X.names Γ.X.env.scope.names tgt=true
 noCel:¬ ∃ i p,tgt=.cel i p
 acc:R[l]?=some (D,D)
 ce:(isAbs cond || okE L cond Γ.X.names Γ.X.env.scope.names)=true
 ee:okE L elt Γ.X.names Γ.X.env.scope.names=true
 ht:ST L n C cond
 he:SE L n C elt
theorem code_comp {iter:Expr} {scope:Scope} {pos:Pos} {it D:Addr} {l:Nat} {I:Nat->St->Prop} {k:St->Prop} (J:Turns Γ L n C tgt cond elt s₀ R₀ st₀ l D) (hn:s₀.heap.get? it=none)
  (step:∀ n v st,all[n]?=some v->I n st->stands wt all st.H/\bodyP tgt cond elt C l v st (I (n+1))) (fin:∀ st,I all.length st->stands wt all st.H/\k st) :
  ∀ (m i:Nat) (s:Shared) (R:Reg) (st:St),i + m=all.length->IterSt s.heap R it all wt i->After Γ s₀ R₀ s R st->I i st →
   codeP Γ.M Γ.A (.compLoop (.ListComp (toE L elt Γ.X.names) [⟨toT0 Γ.X.names L tgt,iter,(optE cond (toE L cond Γ.X.names)).toList,0⟩] scope pos) 0 (.ref it) (.ref D) Γ.X.env) (fun r s'=>r=.ok .next/\∃ R' stf,k stf/\After Γ s₀ R₀ s' R' stf) s:=by
 intro m
 induction m with
 | zero =>
  intro i s R st hi x af hI
  obtain rfl:i=all.length:=hi
  have f:=fin st hI
  refine codeP_of_tree ?_ rfl
  show wpP _ Γ.A ((compTurn _ 0 (.ref it) (.ref D) Γ.X.env).onRaise (fun x=>do noteFrame x Γ.X.env;theTreesLotGoes x)) _ _ s
  refine wpP_onRaise ?_
  rw [compTurn_eq]
  refine wpP_bind (wpP_standAt (wpP_bind (wpP_of (iter_next J.O.room.handled af.pre x f.1 (Nat.le_refl _) (fun a v h' tk e=>?_) fun h' _ he=>?_))))
  ·exact absurd (List.getElem?_eq_some_iff.mp e).1 (Nat.lt_irrefl _)
  ·exact wpP_pure ⟨rfl,R,st,f.2,After.turn (tk:=s.toks) J.O.fx J.P af hn x.obj he⟩
 | succ m ih =>
  intro i s R st hi x af hI
  have hlt:i < all.length:=hi▸Nat.lt_add_of_pos_right (Nat.succ_pos m)
  have f:=step i _ st (List.getElem?_eq_getElem hlt) hI
  refine codeP_of_tree ?_ rfl
  show wpP _ Γ.A ((compTurn _ 0 (.ref it) (.ref D) Γ.X.env).onRaise (fun x=>do noteFrame x Γ.X.env;theTreesLotGoes x)) _ _ s
  refine wpP_onRaise ?_
  rw [compTurn_eq]
  refine wpP_bind (wpP_standAt (wpP_bind (wpP_of (iter_next J.O.room.handled af.pre x f.1 (Nat.le_of_lt hlt) (fun a v h' tk e rv he x'=>?_) fun h' e _=>?_))))
  case refine_2=>exact absurd (get_out e) (Nat.not_le.mpr hlt)
  obtain rfl:=inj_some (List.getElem?_eq_getElem hlt) e
  have af1:After Γ s₀ R₀ { s with heap:=h',toks:=tk } R st:=After.turn J.O.fx J.P af hn x.obj he
  refine wpP_bind (wpP_of (x'.obj.notOwned (s:={ s with heap:=h',toks:=tk }) ?_))
  refine wpP_bind (wpP_mono (sim_assign0 J.O.room.handled af1.pre J.O.fx (fun q=>absurd q J.noCel) J.tg (rv.mono (x.obj.keeps9 he)) (fun _ st'=>condP cond elt C l (I (i+1)) st') (fun _ _=>False) f.2) ?_ fun _ _ x=>x.casesOn fun _ _ _ h=>h.elim)
  rintro u s2 ⟨_,st2,R2,hq,af2,_⟩
  have x2:=x'.after (s:={ s with heap:=h',toks:=tk }) af1.pre af2
  have afc:=af1.trans af2
  have go:∀ s' R' st',After Γ s2 R2 s' R' st'->I (i+1) st'->codeP Γ.M Γ.A (.compLoop (.ListComp (toE L elt Γ.X.names) [⟨toT0 Γ.X.names L tgt,iter,(optE cond (toE L cond Γ.X.names)).toList,0⟩] scope pos) 0 (.ref it) (.ref D) Γ.X.env) (fun r s'=>r=.ok .next/\∃ R' stf,k stf/\After Γ s₀ R₀ s' R' stf) s' :=
   fun s' R' st' a h=>ih (i+1) s' R' st' (by rw [Nat.succ_add];exact hi) (x2.after af2.pre a) (afc.trans a) h
  refine wpP_bind (wpP_mono (sim_tests J.ht J.O af2.pre J.ce (fun b st=>Bool.casesOn b (I (i+1) st) (eltP elt C l (I (i+1)) st)) (fun _ _=>False) hq) ?_ fun _ _ x=>x.casesOn fun _ _ _ h=>h.elim)
  rintro b s3 ⟨b',st3,R3,hq3,af3,hb⟩
  obtain rfl:b=b':=hb
  cases b with
  | false=>exact wpP_pure ⟨rfl,go s3 R3 st3 af3 hq3⟩
  | true =>
   refine wpP_bind (wpP_bind (wpP_mono (J.he _ s3 R3 st3 J.O af3.pre J.ee _ _ hq3) ?_ fun _ _ x=>x.casesOn fun _ _ _ h=>h.elim))
   rintro v s4 ⟨a4,st4,R4,hq4,af4,rv4⟩
   obtain ⟨xs,h4,hz,hk⟩:=hq4
   have aD:VRel s4.heap R4 (.ref D) (.ref l):=VRel.mkRef (b:=D) ((afc.trans (af3.trans af4)).step.get J.acc)
   refine wpP_bind (wpP_mono (sim_append af4.pre J.O.fx aD h4 rv4 hz (fun _ st=>I (i+1) st) (fun _ _=>False) hk) ?_ fun _ _ x=>x.casesOn fun _ _ _ h=>h.elim)
   rintro v5 s5 ⟨a5,st5,R5,hq5,af5,_⟩
   exact wpP_pure (wpP_pure ⟨rfl,go s5 R5 st5 (af3.trans (af4.trans af5)) hq5⟩)
end
end Ab
end
section
namespace Ab
open PySem PySem.W PySem.Calls PyProof.Rows PyProof.Rows.TI
section
variable {Γ:Cx} {s s₀ s':Shared} {R R₀ R':Reg} {st st₀ st':St} {h':Heap} {L n:Nat} {C:Call} {ns:List String} {sc:List (String×NameKind)} {caps:List (Nat×Nat)} {tgt:AT0} {elt it cond:AE} {all:List AV} {wt:Option Nat}
theorem namesLocal {X:Fx} (O:CompOk X ns sc caps tgt):∀ x∈scopeOf sc,x.2=.local->(scopeOf sc).lookup x.1=some .local:=fun x hx hl=>lookup_of_mem O.keys (hl▸hx)
theorem not_set {N:List String} {e:AE} {env:Env}:∀ v,foldedSetIterable (toE L e N) env v=pure v:=by cases e <;> exact fun _=>rfl
structure CompIn (Γ:Cx) (L n:Nat) (C:Call) (ns:List String) (sc:List (String×NameKind)) (caps:List (Nat×Nat)) (tgt:AT0) (elt it cond:AE):Prop where
 O:Ok Γ n C
 K:CompOk Γ.X ns sc caps tgt
 ie:okE L it Γ.X.names Γ.X.env.scope.names=true
 ee:okE L elt ns (compSc Γ.X.env.scope.names (scopeOf sc))=true
 ce:(isAbs cond || okE L cond ns (compSc Γ.X.env.scope.names (scopeOf sc)))=true
 hi:SE L n C it
 he:SE L n C elt
 ht:ST L n C cond
structure CompEnd (Γ:Cx) (s:Shared) (R:Reg) (st:St) (D G:Addr) (s5:Shared) (R5:Reg) (H:AH):Prop where
 af:After Γ s R s5 R5 ⟨st.fr,H⟩
 acc:R5[st.H.length]?=some (D,D)
 new:s.heap.get? G=none
 reg:G∉R5.map (·.2)
 own:G∉Γ.X.own
 ns:∃ m,s5.heap.Ns G m
theorem ns_noVal {G:Addr} {h:Heap} {m:Str->Option Value} (hN:h.Ns G m):∃ o,h.get? G=some o/\¬ ValObj o:=(ns_owned hN).casesOn fun o g f=>⟨o,g,f.noVal⟩
theorem CompEnd.letGo {D G:Addr} {s5:Shared} {R5:Reg} {H:AH} (x:CompEnd Γ s R st D G s5 R5 H) (P:Pre Γ s R st) (K:FxOk Γ.X) (hs:Heap.SameBut G s5.heap h'):After Γ s R { s5 with heap:=h' } R5 ⟨st.fr,H⟩:=by
 obtain ⟨m,hN⟩:=x.ns
 exact After.junk (ex:=[G]) K P.sat.keep x.af (junk1 ⟨x.new,x.reg,x.own,ns_noVal hN⟩) ⟨fun b p _ hb e=>(hs.2 b fun q=>hb (q▸.head _)).trans e,fun b p hb hn e=>⟨p.slots,(hs.2 b fun q=>x.own (q▸frames_own K hb)).trans e⟩⟩
theorem comp_core {pos:Pos} {v:Value} {x:AV} {use:Option (Value->Sem Unit)} {Q:Value->Shared->Prop} {E:Value->Shared->Prop} {k:St->St->Prop}
  (J:CompIn Γ L n C ns sc caps tgt elt it cond) (P:Pre Γ s R st) (r:VRel s.heap R v x)
  (hp:iterP x st.H fun all w=>ForI all w (bodyP tgt cond elt C st.H.length) ⟨capture caps st.fr ns.length,st.H++[.list []]⟩ (k st))
  (hQ:∀ D G s5 R5 stf,CompEnd Γ s R st D G s5 R5 stf.H->k st stf->CompPost Γ.M Γ.A E use Q (.ref D) G (.ok .next) s5) :
  wpP Γ.M Γ.A (pyIter v) (fun it' s₂=>wpP Γ.M Γ.A (newList []) (fun acc s₃ =>
   wpP Γ.M Γ.A (newFunctionEnv (cScope sc) Γ.X.env.globals (closeOf Γ.X.env.cells (scopeOf sc) []) [] Γ.X.env.qual none .none (some Γ.X.env)) (fun cenv s₄ =>
    codeP Γ.M Γ.A (.compStart (.ListComp (toE L elt ns) [⟨toT0 ns L tgt,toE L it Γ.X.names,(optE cond (toE L cond ns)).toList,0⟩] (cScope sc) pos) 0 it' acc { cenv with scope:=relabel (cScope sc) Γ.X.env }) (CompPost Γ.M Γ.A E use Q acc cenv.locals) s₄) E s₃) E s₂) E s:=by
 refine wpP_of (iter_start P r hp fun all wt h2 hF hI=>?_)
 obtain ⟨I,h0,step,fin⟩:=hF
 obtain ⟨o,vs,rfl,hd,x2⟩:=hI
 have a2:=After.push (o:=o) (tk:=s.toks) P
 have a3:=After.allocList (tk:=s.toks) (n:=0) (vs:=[]) (as:=[]) a2.pre VRels.nil (Nat.zero_le _)
 refine wpP_of (wpAny_newObj_type ?_ (Nat.zero_le _))
 refine wpP_of (wpAny_newFunctionEnv (fun y hy=>J.K.noCell y hy) (by intro y hy;simp at hy) (fun h4 hN hsb=>?_) rfl)
 have keep4:∀ b p,((s.heap.push o).push (listOf ([]:List Value).toArray 0)).get? b=some p->h4.get? b=some p:=fun b p e=>(hsb.2 b (Nat.ne_of_lt (Heap.lt_size e))).trans (Heap.get?_push_of_some _ e)
 have P4:=Pre.comp a3.pre J.O.fx J.K hN keep4
 have KY:=compX_ok a3.pre J.O.fx J.K
 have keep3:∀ b p,(s.heap.push o).get? b=some p->h4.get? b=some p:=fun b p e=>keep4 b p (Heap.get?_push_of_some _ e)
 have x4:IterSt h4 (R++[((s.heap.push o).objs.size,(s.heap.push o).objs.size)]) s.heap.objs.size all wt 0:=x2.mono (fun p e=>keep3 _ p e) (keeps9_app keep3)
 have gone2:∀ b,b≠s.heap.objs.size->(gone h4 [s.heap.objs.size]).get? b=h4.get? b:=fun b hb=>gone_get fun q=>hb (List.mem_singleton.mp q)
 have P₀:=Pre.junk (ex:=[s.heap.objs.size]) (h':=gone h4 [s.heap.objs.size]) P4 KY (junk1 (x4.obj.junk P4 (none_B P.sat (get_size_none _)))) (x4.obj.stays (fun b p hb e=>(gone2 b hb).trans e) _)
 have af4:=After.keepAll (h':=h4) (tk:=s.toks) P₀ fun b p e=>(gone_some e).2
 have hD3:(R++[((s.heap.push o).objs.size,(s.heap.push o).objs.size)])[st.H.length]?=some ((s.heap.push o).objs.size,(s.heap.push o).objs.size):=by rw [<-P.sat.len];exact get_last
 have hY:=compX_names (sc:=sc) (ns:=ns) (D:=((s.heap.push o).push (listOf ([]:List Value).toArray 0)).objs.size) J.O.fx
 have OY:Ok ⟨Γ.G,Γ.A,compX Γ ((s.heap.push o).push (listOf ([]:List Value).toArray 0)).objs.size ns sc⟩ n C:=⟨J.O.st,J.O.call,⟨J.O.room.handled,J.O.room.guards,J.O.room.frames,J.O.room.depth,J.O.room.units⟩,KY,J.K.nms⟩
 refine codeP_compStart ?_ (fun hq=>iter_self (Γ:=⟨Γ.G,Γ.A,Γ.X⟩) (s:={ s with heap:=h4,toks:=s.toks }) x4 hq)
 refine codeP_mono (code_comp (k:=k st) (iter:=toE L it Γ.X.names) (scope:=cScope sc) (pos:=pos) (D:=(s.heap.push o).objs.size) (l:=st.H.length)
  ⟨OY,P₀,hY▸J.K.tgt,J.K.noCel,hD3,hY▸J.ce,hY▸J.ee,J.ht,J.he⟩ (gone_none (.head _)) step fin all.length 0 _ _ _ (Nat.zero_add _) x4 af4 h0) ?_
 rintro rr s5 ⟨rfl,R5,stf,hk,af5⟩
 have hsz:((s.heap.push o).push (listOf ([]:List Value).toArray 0)).objs.size=s.heap.objs.size+1+1:=by rw [Heap.size_push,Heap.size_push]
 have freshG:s.heap.get? ((s.heap.push o).push (listOf ([]:List Value).toArray 0)).objs.size=none:=Heap.get?_none_of_le (hsz▸Nat.le_trans (Nat.le_succ _) (Nat.le_succ _))
 have keep0:∀ b p,s.heap.get? b=some p->(gone h4 [s.heap.objs.size]).get? b=some p:=fun b p e=>(gone2 b (Nat.ne_of_lt (Heap.lt_size e))).trans (keep3 b p (Heap.get?_push_of_some _ e))
 have hnd:=List.nodup_append.mp af5.pre.sat.nodup
 refine hQ _ _ s5 R5 stf ⟨?_,af5.step.get hD3,freshG,fun q=>hnd.2.2 _ q _ (.head _) rfl,fun q=>(List.nodup_cons.mp hnd.2.1).1 q,af5.pre.fr.ns.casesOn fun m hm _=>⟨m,hm⟩⟩ hk
 exact After.leaveG (A':=Γ.A) (X':=compX Γ ((s.heap.push o).push (listOf ([]:List Value).toArray 0)).objs.size ns sc) P J.O.fx.enter rfl (fun _ h=>h) (fun b hb=>List.mem_singleton.mp hb▸freshG) keep0 rfl [((s.heap.push o).objs.size,(s.heap.push o).objs.size)] rfl
  (fun p hp=>List.mem_singleton.mp hp▸Heap.get?_none_of_le (by rw [Heap.size_push];exact Nat.le_succ _)) P₀ af5
theorem closure_ok {s:Shared} {R:Reg} {st:St} (P:Pre Γ s R st) (K:CompOk Γ.X ns sc caps tgt):closureFor (cScope sc) Γ.X.env=pure (closeOf Γ.X.env.cells (scopeOf sc) []):=closureFor_eq (scope:=cScope sc) fun n hn=>cell_of_free P K hn
theorem se_comp {p:Nat} (hi:SE L n C it) (he:SE L n C elt) (ht:ST L n C cond):SE L n C (.comp ns sc caps tgt elt it cond p):=fun Γ s R st O P hx=>by
 have J:CompIn Γ L n C ns sc caps tgt elt it cond:=⟨O,compOk_of (and_r (and_l (and_l hx))),and_l (and_l (and_l hx)),and_r (and_l hx),and_r hx,hi,he,ht⟩
 show SimAt Γ VRel (eval (.ListComp (toE L elt ns) [⟨toT0 ns L tgt,toE L it Γ.X.names,(optE cond (toE L cond ns)).toList,0⟩] (cScope sc) (dp L p)) Γ.X.env) _ s R
 rw [arm_eval_ListComp]
 intro Q E hp
 refine wpP_comprehension (g:=⟨toT0 ns L tgt,toE L it Γ.X.names,(optE cond (toE L cond ns)).toList,0⟩) (gs:=[]) rfl not_set (closure_ok P J.K) rfl (namesLocal J.K) (wpP_mono (hi _ s R st O P J.ie _ _ hp) ?_ fun _ _ x=>x)
 rintro v s1 ⟨x,st1,R1,hq,af1,r1⟩
 refine comp_core J af1.pre r1 (k:=fun st st1=>Q (.ref st.H.length) ⟨st.fr,st1.H⟩) hq fun D G s5 R5 stf x hk=>?_
 obtain ⟨m,hN⟩:=x.ns
 exact ⟨m,hN,fun h' hsb=>⟨.ref st1.H.length,⟨st1.fr,stf.H⟩,R5,hk,af1.trans (x.letGo af1.pre J.O.fx hsb),VRel.mkRef (b:=D) x.acc⟩⟩
theorem sim_compUse {p:Nat} {t0:AT0} (J:CompIn Γ L n C ns sc caps tgt elt it cond) (FX:FnFx Γ.X) (P:Pre Γ s R st) (ht0:okT0 Γ.X.names Γ.X.env.scope.names t0=true) :
  SimAt Γ NoRel (evalThenUse (toE L (.comp ns sc caps tgt elt it cond p) Γ.X.names) Γ.X.env fun v=>assignAll v [assign (toT0 Γ.X.names L t0) Γ.X.env])
   (fun Q E=>vE T C (.comp ns sc caps tgt elt it cond p) st (fun v st=>setT t0 v st.fr fun fr=>Q () ⟨fr,st.H⟩) E) s R:=by
 intro Q E hp
 show wpP Γ.M Γ.A (comprehension (.ListComp (toE L elt ns) [⟨toT0 ns L tgt,toE L it Γ.X.names,(optE cond (toE L cond ns)).toList,0⟩] (cScope sc) (dp L p)) (cScope sc) Γ.X.env (toE L it Γ.X.names).pos (newList []) false (eval (toE L it Γ.X.names) Γ.X.env) (some fun v=>assign (toT0 Γ.X.names L t0) Γ.X.env v) >>= fun _=>pure ()) _ _ s
 refine wpP_bind (wpP_comprehension (g:=⟨toT0 ns L tgt,toE L it Γ.X.names,(optE cond (toE L cond ns)).toList,0⟩) (gs:=[]) rfl not_set (closure_ok P J.K) rfl (namesLocal J.K) (wpP_mono (J.hi _ s R st J.O P J.ie _ _ hp) ?_ fun _ _ x=>x))
 rintro v s1 ⟨x,st1,R1,hq,af1,r1⟩
 refine comp_core J af1.pre r1 (k:=fun st st1=>setT t0 (.ref st.H.length) st.fr fun fr=>Q () ⟨fr,st1.H⟩) hq fun D G s5 R5 stf x hk=>?_
 show wpP Γ.M Γ.A (assign (toT0 Γ.X.names L t0) Γ.X.env (.ref D)) _ _ s5
 refine wpP_mono (sim_assign0 J.O.room.handled x.af.pre J.O.fx (fun _=>FX) ht0 (VRel.mkRef (b:=D) x.acc) (fun _ st=>Q () st) (fun _ _=>False) hk) ?_ fun _ _ x=>x.casesOn fun _ _ _ h=>h.elim
 rintro u s6 ⟨_,st6,R6,hq6,af6,_⟩
 obtain ⟨m,o,es,ep,g,q⟩:=x.ns
 have g6:=af6.step.same G o g x.reg x.own
 have x6:CompEnd Γ s1 R1 ⟨st6.fr,st1.H⟩ D G s6 R6 st6.H:=⟨x.af.trans af6,af6.step.get x.acc,x.new,fun q=>by
  obtain ⟨new,rfl,hnew⟩:=af6.step.ext
  rw [List.map_append] at q
  exact (List.mem_append.mp q).elim x.reg fun q=>(List.mem_map.mp q).elim fun p z=>some_ne (hnew p z.1) (z.2▸g),x.own,m,o,es,ep,g6,q⟩
 exact ⟨m,⟨o,es,ep,g6,q⟩,fun h' hsb=>wpP_pure ⟨(),st6,R6,hq6,af1.trans (After.junk (ex:=[G]) J.O.fx af1.pre.sat.keep x6.af (junk1 ⟨x6.new,x6.reg,x6.own,ns_noVal ⟨o,es,ep,g6,q⟩⟩) ⟨fun b p _ hb e=>(hsb.2 b fun q=>hb (q▸.head _)).trans e,fun b p hb hn e=>⟨p.slots,(hsb.2 b fun q=>x6.own (q▸frames_own J.O.fx hb)).trans e⟩⟩),trivial⟩⟩
end
end Ab
end
section
namespace Ab
open PySem PySem.W PySem.Calls PyProof.Rows PyProof.Rows.TI
section
variable {L n:Nat} {C:Call}
structure EOk (L n:Nat) (C:Call) (e:AE):Prop where
 se:SE L n C e
 st:ST L n C e
structure EsOk (L n:Nat) (C:Call) (es:AEs):Prop where
 se:SEs L n C es
 sb:SBs L n C es
 st:STs L n C es
theorem EOk.of {e:AE} (h:SE L n C e) (hp:∀ N env,isTrue (toE L e N) env (eval (toE L e N) env)=(do let v ← eval (toE L e N) env;standAt (toE L e N).pos;PySem.holding [v] (truthy v))):EOk L n C e:=⟨h,fun Γ s R st O P hx=>by
 rw [hp]
 exact SimAt.bind (p:=vE T C e st) (g:=fun v st Q _=>v.isBool fun b=>Q b st) (h _ s R st O P hx) fun v s1 a st1 R1 af1 r1=>.standAt (sim_truthy af1.pre r1).holding⟩
theorem sound_e:∀ e:AE,EOk L n C e:=fun e=>AE.rec (motive_1:=EOk L n C) (motive_2:=EsOk L n C)
 (fun v p=>.of se_cst fun _ _=>rfl)
 (fun i p=>.of se_loc fun _ _=>rfl)
 (fun i p=>.of se_cel fun _ _=>rfl)
 (fun x p=>.of se_glb fun _ _=>rfl)
 (fun op l r p hl hr=>.of (se_bin hl.se hr.se) fun _ _=>rfl)
 (fun op l r p hl hr=>⟨se_cmp hl.se hr.se,st_cmp hl.se hr.se⟩)
 (fun e p h=>⟨se_not h.se,st_not h.st⟩)
 (fun k es p h=>⟨se_bop h.sb,st_bop h.st⟩)
 (fun f es p q h=>.of (se_call h.se) fun _ _=>rfl)
 (fun f es p q h=>.of (se_new h.se) fun _ _=>rfl)
 (fun k es p q h=>.of (se_prim h.se) fun _ _=>rfl)
 (fun e p q r h=>.of (se_isb h.se) fun _ _=>rfl)
 (fun o m es p q ho h=>.of (se_meth ho.se h.se) fun _ _=>rfl)
 (fun o m es p q ho h=>.of (se_lmeth ho.se h.se) fun _ _=>rfl)
 (fun o a p ho=>.of (se_attr ho.se) fun _ _=>rfl)
 (fun o i p ho hi=>.of (se_sub ho.se hi.se) fun _ _=>rfl)
 (fun o l r p q ho hl hr=>.of (se_slc ho.se hl.se hr.se) fun _ _=>rfl)
 ⟨fun _ _ _ _ _ _ hx=>(nomatch (show false=true from hx)),fun _ _ _ _ _ _ hx=>(nomatch (show false=true from hx))⟩
 (fun es p h=>.of (se_lst h.se) fun _ _=>rfl)
 (fun es p h=>.of (se_tup h.se) fun _ _=>rfl)
 (fun ns sc caps tgt elt it cond p he hi hc=>.of (se_comp hi.se he.se hc.st) fun _ _=>rfl)
 ⟨ses_nil,sb_nil,stb_nil⟩
 (fun e es h hs=>⟨ses_cons h.se hs.se,by cases es with
  | nil=>exact sb_one h.se
  | cons e' es=>exact sb_more h.se hs.sb,by cases es with
  | nil=>exact stb_one h.st
  | cons e' es=>exact stb_more h.st hs.st⟩) e
variable (L n C) in
def SS (a:AS):Prop:=∀ Γ s R st,Ok Γ n C->FnFx Γ.X->Pre Γ s R st->okS L Γ.X.names Γ.X.env.scope.names a=true->SimAt Γ FlRel (exec (toS L Γ.X.names a) Γ.X.env) (vS T C a st) s R
variable (L n C) in
def SSs (as:ASs):Prop:=∀ Γ s R st,Ok Γ n C->FnFx Γ.X->Pre Γ s R st->okSs L Γ.X.names Γ.X.env.scope.names as=true->SimAt Γ FlRel (execs (toSs L Γ.X.names as) Γ.X.env) (vSs T C as st) s R
variable {e c:AE} {b o:ASs} {p q x y z:Nat} {Γ:Cx} {s:Shared} {R:Reg} {st:St}
theorem ss_ret0:SS L n C (.ret0 p):=fun Γ s R st O FX P hx=>by
 show SimAt Γ FlRel (standAt (dp L p) >>= fun _=>pure (.ret .none)) _ s R
 exact .standAt (.ok P (.ret .none))
theorem ss_ret:SS L n C (.ret e p):=fun Γ s R st O FX P hx=>by
 show SimAt Γ FlRel (standAt (dp L p) >>= fun _=>eval (toE L e Γ.X.names) Γ.X.env >>= fun v=>pure (.ret v)) (fun Q E=>vE T C e st (fun v st=>Q (.ret v) st) E) s R
 exact .standAt (SimAt.map (f:=Flow.ret) (g:=Fl.ret) ((sound_e e).se _ s R st O P hx) fun _ _ _ _ r=>.ret r)
theorem sss_nil:SSs L n C .nil:=fun Γ s R st O FX P hx=>.ok P .next
theorem sss_cons {a:AS} {as:ASs} (h:SS L n C a) (hs:SSs L n C as):SSs L n C (.cons a as):=fun Γ s R st O FX P hx=>by
 show SimAt Γ FlRel (exec (toS L Γ.X.names a) Γ.X.env >>= fun f=>match f with|.next=>execs (toSs L Γ.X.names as) Γ.X.env|f=>pure f) (fun Q E=>vS T C a st (onNext (fun st=>vSs T C as st Q E) Q) E) s R
 refine SimAt.bind (p:=vS T C a st) (g:=fun f st Q E=>onNext (fun st=>vSs T C as st Q E) Q f st) (h _ s R st O FX P (and_l hx)) fun f s1 fl st1 R1 af1 r1=>?_
 cases r1 with
 | next=>exact hs _ s1 R1 st1 O FX af1.pre (and_r hx)
 | ret r=>exact .ok af1.pre (.ret r)
theorem ss_ite (hb:SSs L n C b) (ho:SSs L n C o):SS L n C (.ite c b o p):=fun Γ s R st O FX P hx=>by
 show SimAt Γ FlRel (standAt (dp L p) >>= fun _=>isTrue (toE L c Γ.X.names) Γ.X.env (eval (toE L c Γ.X.names) Γ.X.env) >>= fun t=>if t=true then execs (toSs L Γ.X.names b) Γ.X.env else execs (toSs L Γ.X.names o) Γ.X.env) (fun Q E=>testP (vE T C c st) (fun t st=>ifb t (vSs T C b st Q E) (vSs T C o st Q E)) E) s R
 refine .standAt (SimAt.bind (p:=testP (vE T C c st)) (g:=fun t st Q E=>ifb t (vSs T C b st Q E) (vSs T C o st Q E)) ((sound_e c).st _ s R st O P (and_l (and_l hx))) fun t s1 t' st1 R1 af1 rl=>?_)
 obtain rfl:t=t':=rl
 cases t
 ·exact ho _ s1 R1 st1 O FX af1.pre (and_r hx)
 ·exact hb _ s1 R1 st1 O FX af1.pre (and_r (and_l hx))
theorem Ok.loop (O:Ok Γ n C) (FX:FnFx Γ.X) (P:Pre Γ s R st):Loop Γ s R st:=⟨FX,O.room.frames,O.room.handled,O.fx,P⟩
theorem ss_whl (hb:SSs L n C b):SS L n C (.whl c b p):=fun Γ s R st O FX P hx=>by
 show SimAt Γ FlRel (standAt (dp L p) >>= fun _=>runOwn (.whileLoop (toE L c Γ.X.names) (toSs L Γ.X.names b) [] Γ.X.env) Γ.X.env) _ s R
 refine .standAt fun Q E hp=>?_
 obtain ⟨I,k,h0,step⟩:=hp
 exact sim_runOwn (O.loop FX P) (code_while (fc:=fun st=>testP (vE T C c st)) (fb:=fun st=>vSs T C b st) (O.loop FX P) (fun s R st P=>(sound_e c).st _ s R st O P (and_l hx)) (fun s R st P=>hb _ s R st O FX P (and_r hx)) step k s R st (.refl P) h0)
theorem ss_for {t:AT0} (hb:SSs L n C b):SS L n C (.for t e b p):=fun Γ s R st O FX P hx=>by
 show SimAt Γ FlRel (standAt (dp L p) >>= fun _=>eval (toE L e Γ.X.names) Γ.X.env >>= fun v=>foldedSetIterable (toE L e Γ.X.names) Γ.X.env v >>= fun x=>standAt (toE L e Γ.X.names).pos >>= fun _=>PySem.holding [x] (pyIter x) >>= fun it=>runOwn (.forLoop (toT0 Γ.X.names L t) it (toSs L Γ.X.names b) [] Γ.X.env) Γ.X.env) _ s R
 refine .standAt (SimAt.bind (p:=vE T C e st) (g:=fun x st Q E=>iterP x st.H fun all w=>ForI all w (fun v st k=>setT t v st.fr fun fr=>vSs T C b ⟨fr,st.H⟩ (onNext k Q) E) st fun st=>Q .next st) ((sound_e e).se _ s R st O P (and_r (and_l hx))) fun v1 s1 x st1 R1 af1 r1=>?_)
 rw [not_set]
 refine .pureBind (.standAt fun Q E hp=>?_)
 refine wpP_bind (wpP_holding (wpP_of (iter_start af1.pre r1 hp fun all wt h' hF hI=>?_)))
 obtain ⟨I,h0,step,fin⟩:=hF
 obtain ⟨o,vs,rfl,hd,x'⟩:=hI
 exact sim_runOwn (O.loop FX af1.pre) (code_for (fb:=fun st=>vSs T C b st) (O.loop FX af1.pre) (get_size_none _) (and_l (and_l hx)) (fun s R st P=>hb _ s R st O FX P (and_r hx)) step fin all.length 0 _ R1 st1 (Nat.zero_add _) x' (After.push (tk:=s1.toks) af1.pre) h0)
theorem swaps_no {N:List String} {tg:Option Expr} {l:Nat} {env:Env} (he:isCmp e=false):swapsWith (toE L e N) tg l env=pure false:=by cases e <;> first|rfl|exact nomatch he
theorem wpAny_dropValue {prog:Program} {w:World} {A:Around} {e:Expr} {pos:Pos} {v:Value} {Q:Flow->Shared->Prop} {E:Value->Shared->Prop} (h:Q .next s):wpAny (model prog w) A (dropValue e pos v) Q E s:=by
 unfold dropValue
 split
 ·exact wpAny_pure h
 ·exact wpAny_bind (wpAny_standAt (wpAny_bind (wpAny_runValue (codeAny_builtin entry_let_go (show wpAny _ _ (ret .none) _ _ s from wpAny_pure (wpAny_pure h))))))
 ·exact wpAny_pure h
theorem not_t {a:Bool} (h:(!a)=true):a=false:=Bool.not_eq_true' a▸h
theorem ss_expr:SS L n C (.expr e p):=fun Γ s R st O FX P hx=>by
 show SimAt Γ FlRel (exec (.Expr (toE L e Γ.X.names) (dp L p)) Γ.X.env) (fun Q E=>vE T C e st (fun _ st=>Q .next st) E) s R
 have hi:interactive Γ.X.env=false:=by unfold interactive;rw [O.fx.kind];rfl
 rw [arm_exec_Expr,hi,swaps_no (not_t (and_r hx))]
 refine .standAt ?_
 simp only [Bool.false_eq_true,if_false]
 refine .pureBind ?_
 simp only [Bool.false_eq_true,if_false]
 exact SimAt.bind (p:=vE T C e st) (g:=fun _ st Q _=>Q Fl.next st) ((sound_e e).se _ s R st O P (and_l hx)) fun v s1 a st1 R1 af1 r1=>.rule fun Q E hp=>wpAny_dropValue ⟨.next,st1,R1,hp,.refl af1.pre,.next⟩
theorem ss_aug {i:Nat} {op:Operator}:SS L n C (.aug i op e p q):=fun Γ s R st O FX P hx=>by
 show SimAt Γ FlRel (exec (.AugAssign (.Name (Str.ofString (Γ.X.names.getD i "")) (dp L p)) op (toE L e Γ.X.names) (dp L q)) Γ.X.env) (fun Q E=>getFr i st.fr fun a=>vE T C e st (fun b st=>augP op a b fun v=>setFr v i st.fr fun fr=>Q .next ⟨fr,st.H⟩) E) s R
 have q:=slot0 (and_l hx)
 rw [arm_exec_AugAssign]
 refine .standAt (.getFr fun a ha=>?_)
 refine SimAt.bind (p:=fun Q _=>Q a st) (g:=fun a st Q E=>vE T C e st (fun b st=>augP op a b fun v=>setFr v i st.fr fun fr=>Q Fl.next ⟨fr,st.H⟩) E) (sim_loc P O.fx q.at' q.k ha) fun v1 s1 a st1 R1 af1 r1=>?_
 refine SimAt.bind (g:=fun b st Q _=>augP op a b fun v=>setFr v i st.fr fun fr=>Q Fl.next ⟨fr,st.H⟩) ((sound_e e).se _ s1 R1 st1 O af1.pre (and_r hx)).holding fun v2 s2 b st2 R2 af2 r2=>.standAt ?_
 refine SimAt.bind (p:=fun Q _=>augP op a b fun v=>Q v st2) (g:=fun v st Q _=>setFr v i st.fr fun fr=>Q Fl.next ⟨fr,st.H⟩) (sim_aug af2.pre (r1.mono (af2.keeps9 af1.pre)) r2).operate fun v3 s3 c st3 R3 af3 r3=>?_
 show SimAt Γ FlRel (assign (nmE Γ.X.names i p L) Γ.X.env v3 >>= fun _=>pure Flow.next) _ s3 R3
 exact SimAt.bind (p:=fun Q _=>setFr c i st3.fr fun fr=>Q () ⟨fr,st3.H⟩) (g:=fun _ st Q _=>Q Fl.next st) (sim_setLoc af3.pre O.fx q r3) fun _ s4 _ st4 R4 af4 _=>.ok af4.pre .next
end
end Ab
end
section
namespace Ab
open PySem PySem.W PySem.Calls PyProof.Rows PyProof.Rows.TI
section
variable {L n:Nat} {C:Call} {e c o l:AE} {p q x y z:Nat} {Γ:Cx} {s:Shared} {R:Reg} {st:St} {ov iv v:Value} {a b k:AV}
theorem VRels.set {h:Heap} {vs:List Value} {xs:List AV} (r:VRels h R vs xs) (i:Nat) (rv:VRel h R v a):VRels h R (vs.set i v) (xs.set i a):=by
 refine ⟨by rw [List.length_set,List.length_set,r.len],fun j u b e1 e2=>?_⟩
 by_cases hj:i=j
 ·subst hj
  have h1:=(List.getElem?_eq_some_iff.mp e1).1
  have h2:=(List.getElem?_eq_some_iff.mp e2).1
  rw [List.length_set] at h1 h2
  rw [List.getElem?_set_self h1] at e1
  rw [List.getElem?_set_self h2] at e2
  cases e1;cases e2
  exact rv
 ·rw [List.getElem?_set_ne hj] at e1 e2
  exact r.ix j u b e1 e2
theorem sim_setS (P:Pre Γ s R st) (K:FxOk Γ.X) (ro:VRel s.heap R ov b) (ri:VRel s.heap R iv k) (rv:VRel s.heap R v a):SimAt Γ NoRel (setItem ov iv v) (fun Q _=>setS b k a st fun st=>Q () st) s R:=by
 refine .isRef fun l e1=>.nt fun m e2=>.lst fun xs hl=>.and fun hz Q E hp=>?_
 subst e1 e2
 obtain ⟨t,rfl⟩:=ri.int_v
 obtain ⟨p,us,m',rfl,e,z,g,r⟩:=P.lst ro hl
 refine wpP_of (ki_setAt g (Int.natCast_nonneg m) (lim63 (Nat.lt_of_lt_of_le hz z)) (by rw [List.size_toArray,r.len];exact Int.ofNat_lt.mpr hz) ?_)
 rw [Int.toNat_natCast]
 have hself:=PySem.IsL.update g (·.setIfInBounds m v)
 have hk:∀ b o,b≠p->s.heap.get? b=some o->(s.heap.update p (Obj.mapSeq (·.setIfInBounds m v))).get? b=some o:=fun b o hb e=>by
  rw [Heap.get?_update_ne _ _ _ _ hb];exact e
 have k9:=P.sat.upd_keeps9 (.inl (mem_snd e)) hk
 exact ⟨(),_,R,hp,After.upd (tk:=s.toks) P K e hk hself ⟨_,_,rfl,by rw [List.length_set];exact z,hself,(show us.set m v=(us.toArray.setIfInBounds m v).toList from by rw [List.setIfInBounds_toArray])▸(r.set m rv).mono k9⟩,trivial⟩
theorem sim_setA {f:Nat} (O:Ok Γ n C) (P:Pre Γ s R st) (ro:VRel s.heap R ov b) (rv:VRel s.heap R v a):SimAt Γ NoRel (setAttr ov (Str.ofString (nm f)) v) (fun Q _=>setA T b f a st fun st=>Q () st) s R:=by
 refine .isRef fun l e1=>.ins fun c fs hH=>.and fun hf=>.and fun hz=>?_
 subst e1
 exact sim_setAttr O.st.frag P O.fx ro hH hz rv (O.st.field c f hf)
theorem SimAt.letGo {t:Sem Unit} {p:PT Unit} {vs:List Value} {δ:Type} {k:Unit->Sem δ} {u v:List Value} {rel:Rl δ Unit} (h:SimAt Γ NoRel t p s R) (hk:∀ s R st,Pre Γ s R st->SimAt Γ rel (k ()) (fun Q _=>Q () st) s R):SimAt Γ rel (PySem.holding vs t >>= fun _=>release u v >>= k) p s R :=
 SimAt.bind (g:=fun _ st (Q:Unit->St->Prop) _=>Q () st) h.holding fun _ s1 _ st1 R1 af1 _=>.skip (fun hq=>wpAny_release hq) (hk _ _ _ af1.pre)
theorem sim_assign {t:AT} (O:Ok Γ n C) (FX:FnFx Γ.X) (P:Pre Γ s R st) (hr:okT L Γ.X.names Γ.X.env.scope.names t e=true) (rv:VRel s.heap R v a) :
  SimAt Γ NoRel (assign (toT L Γ.X.names t) Γ.X.env v) (fun Q E=>vT T C t a st (fun st=>Q () st) E) s R:=by
 cases t with
 | t0 t =>
  refine sim_assign0 O.room.handled P O.fx (fun _=>FX) ?_ rv
  cases t with
  | tup is p=>exact and_l (and_l hr)
  | _=>exact hr
 | attr o f p =>
  show SimAt Γ NoRel (PySem.holding [v] (eval (toE L o Γ.X.names) Γ.X.env) >>= fun ov=>standAt (dp L p).atName >>= fun _=>PySem.holding [v,ov] (setAttr ov (Str.ofString (nm f)) v) >>= fun _=>release [v,ov] []) (fun Q E=>vE T C o st (fun x st=>setA T x f a st fun st=>Q () st) E) s R
  refine SimAt.bind (p:=vE T C o st) (g:=fun x st Q _=>setA T x f a st fun st=>Q () st) ((sound_e o).se _ s R st O P (and_l hr)).holding fun ov s1 x st1 R1 af1 r1=>.standAt ?_
  exact SimAt.bind (g:=fun _ st (Q:Unit->St->Prop) _=>Q () st) (sim_setA O af1.pre r1 (rv.mono (af1.keeps9 P))).holding fun _ s2 _ st2 R2 af2 _=>.rule fun Q E hp=>wpAny_release ⟨(),st2,R2,hp,.refl af2.pre,trivial⟩
 | sub o i p =>
  have key:∀ rl:List Value->List Value->List Value,SimAt Γ NoRel (PySem.holding [v] (eval (toE L o Γ.X.names) Γ.X.env) >>= fun ov=>PySem.holding [v,ov] (eval (toE L i Γ.X.names) Γ.X.env) >>= fun iv=>standAt (dp L p) >>= fun _=>PySem.holding [v,ov,iv] (setItem ov iv v) >>= fun _=>release (rl [iv,v,ov] [v,ov,iv]) [])
    (fun Q E=>vE T C o st (fun x st=>vE T C i st (fun j st=>setS x j a st fun st=>Q () st) E) E) s R:=fun rl=>by
   refine SimAt.bind (p:=vE T C o st) (g:=fun x st Q E=>vE T C i st (fun j st=>setS x j a st fun st=>Q () st) E) ((sound_e o).se _ s R st O P (and_l (and_l hr))).holding fun ov s1 x st1 R1 af1 r1=>?_
   refine SimAt.bind (p:=vE T C i st1) (g:=fun j st Q _=>setS x j a st fun st=>Q () st) ((sound_e i).se _ s1 R1 st1 O af1.pre (and_r (and_l hr))).holding fun iv s2 j st2 R2 af2 r2=>.standAt ?_
   have k9:=af2.keeps9 af1.pre
   exact SimAt.bind (g:=fun _ st (Q:Unit->St->Prop) _=>Q () st) (sim_setS af2.pre O.fx (r1.mono k9) r2 ((rv.mono (af1.keeps9 P)).mono k9)).holding fun _ s3 _ st3 R3 af3 _=>.rule fun Q E hp=>wpAny_release ⟨(),st3,R3,hp,.refl af3.pre,trivial⟩
  exact key fun a b=>match (generalizing:=false) toE L i Γ.X.names with|.Slice _ _ none _=>a|_=>b
theorem isCmp_of {a:Bool} (h:(a&&!isCmp e)=true):isCmp e=false:=not_t (and_r h)
theorem ss_asg {t:AT}:SS L n C (.asg t e p):=fun Γ s R st O FX P hx=>by
 show SimAt Γ FlRel (exec (.Assign [toT L Γ.X.names t] (toE L e Γ.X.names) (dp L p)) Γ.X.env) (fun Q E=>vE T C e st (fun v st=>vT T C t v st (fun st=>Q .next st) E) E) s R
 have h1:=and_l hx
 have h2:=and_r hx
 have hst:swappedStores [toT L Γ.X.names t] (toE L e Γ.X.names) Γ.X.env=pure none:=by
  cases t with
  | t0 t =>
   cases t with
   | tup is p=>cases e <;> first|rfl|exact nomatch (show false=true from h1)|exact nomatch (show true=false from not_t (and_r (and_l h2)))
   | _=>rfl
  | _=>rfl
 have ha:(assignEach [toT L Γ.X.names t] Γ.X.env).map (·.2)=[assign (toT L Γ.X.names t) Γ.X.env]:=by
  cases t with
  | t0 t=>cases t <;> rfl
  | _=>rfl
 have plain:swapsWithSole [toT L Γ.X.names t] (toE L e Γ.X.names) (dp L p).line Γ.X.env=pure false->SimAt Γ FlRel (exec (.Assign [toT L Γ.X.names t] (toE L e Γ.X.names) (dp L p)) Γ.X.env) (fun Q E=>vE T C e st (fun v st=>vT T C t v st (fun st=>Q .next st) E) E) s R:=fun hs=>by
  rw [arm_exec_Assign,hs,hst,ha]
  refine .standAt (.pureBind ?_)
  simp only [Bool.false_eq_true,if_false]
  refine SimAt.bind (p:=vE T C e st) (g:=fun v st Q E=>vT T C t v st (fun st=>Q Fl.next st) E) ((sound_e e).se _ s R st O P h1) fun v s1 a st1 R1 af1 r1=>.pureBind ?_
  show SimAt Γ FlRel (assign (toT L Γ.X.names t) Γ.X.env v >>= fun _=>pure .next) _ s1 R1
  exact SimAt.bind (p:=fun Q E=>vT T C t a st1 (fun st=>Q () st) E) (g:=fun _ st Q _=>Q Fl.next st) (sim_assign O FX af1.pre h2 r1) fun _ s2 _ st2 R2 af2 _=>.ok af2.pre .next
 cases hc:isCmp e with
 | false=>exact plain (swaps_no hc)
 | true =>
  cases e <;> try exact nomatch (show false=true from hc)
  rename_i ns sc caps tgt elt it cond p'
  cases t with
  | attr o f p=>exact nomatch (show true=false from not_t (and_r h2))
  | sub o i p=>exact nomatch (show true=false from not_t (and_r h2))
  | t0 t =>
   have ht0:okT0 Γ.X.names Γ.X.env.scope.names t=true:=by
    cases t with
    | tup is p=>exact and_l (and_l h2)
    | _=>exact h2
   have hb:∃ b,swapsWithSole [toT0 Γ.X.names L t] (toE L (.comp ns sc caps tgt elt it cond p') Γ.X.names) (dp L p).line Γ.X.env=pure b:=by cases t <;> exact ⟨_,rfl⟩
   obtain ⟨b,hb⟩:=hb
   cases b with
   | false=>exact plain hb
   | true =>
    rw [arm_exec_Assign,show toT L Γ.X.names (.t0 t)=toT0 Γ.X.names L t from rfl,hb,show (assignEach [toT0 Γ.X.names L t] Γ.X.env).map (·.2)=[assign (toT0 Γ.X.names L t) Γ.X.env] from ha]
    refine .standAt (.pureBind ?_)
    simp only [if_true]
    have J:CompIn Γ L n C ns sc caps tgt elt it cond:=⟨O,compOk_of (and_r (and_l (and_l h1))),and_l (and_l (and_l h1)),and_r (and_l h1),and_r h1,(sound_e it).se,(sound_e elt).se,(sound_e cond).st⟩
    exact SimAt.bind (p:=fun Q E=>vE T C (.comp ns sc caps tgt elt it cond p') st (fun v st=>setT t v st.fr fun fr=>Q () ⟨fr,st.H⟩) E) (g:=fun _ st Q _=>Q Fl.next st) (sim_compUse (p:=p') J FX P ht0) fun _ s2 _ st2 R2 af2 _=>.ok af2.pre .next
theorem ss_augAttr {i f:Nat} {op:Operator}:SS L n C (.augAttr i f op e p q x):=fun Γ s R st O FX P hx=>by
 show SimAt Γ FlRel (exec (.AugAssign (.Attribute (.Name (Str.ofString (Γ.X.names.getD i "")) (dp L p)) (Str.ofString (nm f)) (dp L q)) op (toE L e Γ.X.names) (dp L x)) Γ.X.env) (fun Q E=>getFr i st.fr fun a=>a.isRef fun l=>Ins st.H l fun c fs=>T.field c f=true/\optP (fget f fs) fun old=>vE T C e st (fun b st=>augP op old b fun v=>setA T a f v st fun st=>Q .next st) E) s R
 have q:=slot_k O (and_l hx)
 rw [arm_exec_AugAssign_2]
 refine .standAt (.getFr fun a ha=>?_)
 refine SimAt.bind (p:=fun Q _=>Q a st) (g:=fun a st Q E=>a.isRef fun l=>Ins st.H l fun c fs=>T.field c f=true/\optP (fget f fs) fun old=>vE T C e st (fun b st=>augP op old b fun v=>setA T a f v st fun st=>Q Fl.next st) E) (sim_Name q.d (sim_loc P O.fx q.at' q.k ha)) fun ov s1 a st1 R1 af1 r1=>?_
 refine .isRef fun l e1=>.ins fun c fs hH=>.and fun hf=>?_
 subst e1
 refine SimAt.bind (rel:=VRel) (p:=fun Q E=>optP (fget f fs) fun old=>vE T C e st1 (fun b st=>augP op old b fun v=>Q v st) E) (g:=fun v st Q _=>setA T (.ref l) f v st fun st=>Q Fl.next st) (.holding (.standAt ?_)) fun new s2 v st2 R2 af2 r2=>.standAt ?_
 ·refine SimAt.bind (p:=fun Q _=>optP (fget f fs) fun r=>Q r st1) (g:=fun old st Q E=>vE T C e st (fun b st=>augP op old b fun v=>Q v st) E) (sim_getAttr O.st.frag af1.pre r1 hH (O.st.field c f hf)) fun old s3 o st3 R3 af3 r3=>?_
  exact SimAt.bind (p:=vE T C e st3) (g:=fun b st Q _=>augP op o b fun v=>Q v st) ((sound_e e).se _ s3 R3 st3 O af3.pre (and_r hx)).holding fun v2 s4 b st4 R4 af4 r4=>.standAt (sim_aug af4.pre (r3.mono (af4.keeps9 af3.pre)) r4).operate
 ·exact SimAt.bind (g:=fun _ st Q _=>Q Fl.next st) (sim_setA O af2.pre (r1.mono (af2.keeps9 af1.pre)) r2).holding fun _ s3 _ st3 R3 af3 _=>.skip (fun h=>wpAny_release h) (.ok af3.pre .next)
end
end Ab
end
section
namespace Ab
open PySem PySem.W PySem.Calls PyProof.Rows PyProof.Rows.TI
theorem OwnTail.keeps {h h':Heap} {bmB:List Value} (hk:∀ b o,h.get? b=some o->h'.get? b=some o) {l:List Value} (x:OwnTail h bmB l):OwnTail h' bmB l:=by
 induction x with
 | base=>exact .base
 | own e n q _ ih=>exact .own (hk _ _ e) (n.keeps hk) q ih
section
variable {prog:Program} {w:World} {A:Around} {B:Heap} {s:Shared}
theorem wpAny_raise_made {Cl e t:Addr} {Q:Flow->Shared->Prop} {E:Value->Shared->Prop} {env:Env} (O:ExcOk B Cl) (hk:∀ b o,B.get? b=some o->s.heap.get? b=some o) (hh:A.handled=none)
  (he:s.heap.get? e=some { cls:=.ref Cl,data:=.fields #[.ref t,.none,.none,.none,.bool false,.none] }) (h:E (.ref e) s):wpAny (model prog w) A (raiseStmt env (some (pure (.ref e))) none) Q E s:=by
 obtain ⟨nm,q,N,bs,bm,hdct,sn,sub,ab,col,dd,k0,k1,k2,k3,k5,mN,hC,hN,hi,hT,hb⟩:=O.ex
 exact wpAny_raiseStmt_made_sub (C:=Cl) hb hh (wpAny_pure ⟨e,t,rfl,hk _ _ hC,he,h⟩)
theorem wpAny_make_exc {Cl:Addr} {v:List Value} {Q:Value->Shared->Prop} {E:Value->Shared->Prop} (O:ExcOk B Cl) (hk:∀ b o,B.get? b=some o->s.heap.get? b=some o) (hz:v.length<=sizeLine)
  (h:∀ h' e,Heap.MadeExcOf s.heap h' e (.ref Cl) v->Q (.ref e) { s with heap:=h' }):wpAny (model prog w) A (call (.ref Cl) v) Q E s:=by
 obtain ⟨nm,q,N,bs,bm,hdct,sn,sub,ab,col,dd,k0,k1,k2,k3,k5,mN,hC,hN,hi,hT,hb⟩:=O.ex
 obtain ⟨hp,g,d,tk,os⟩:=s
 exact wpAny_call_exc_subU (hrest:=hz) (B:="Exception") (Bn:="Exception") PySem.F.excBase_Exception rfl PySem.F.excBase_Exception (OwnTail.keeps hk hT) (hk _ _ hC) (hN.keeps hk) hi h
theorem wpAny_keeper_exc {Cl:Addr} {Q:Keeper->Shared->Prop} {E:Value->Shared->Prop} (O:ExcOk B Cl) (hk:∀ b o,B.get? b=some o->s.heap.get? b=some o) (h:Q .machine s):wpAny (model prog w) A (keeperOf (.ref Cl)) Q E s:=by
 obtain ⟨nm,q,N,bs,bm,hdct,sn,sub,ab,col,dd,k0,k1,k2,k3,k5,mN,hC,hN,hi,hT,hb⟩:=O.ex
 obtain ⟨hp,g,d,tk,os⟩:=s
 exact wpAny_keeperOf_exc (hk _ _ hC) h
end
theorem log2_lt {i:Int} (h:-(2 ^ 512:Int) < i/\i < 2 ^ 512):i.natAbs.log2 < 1920:=by
 by_cases h0:i.natAbs=0
 ·rw [h0];decide
 ·rw [Nat.log2_lt h0]
  have h1:i.natAbs < 2 ^ 512:=by
   have:(2 ^ 512:Nat)=((2 ^ 512:Int)).toNat:=by decide +kernel
   omega
  exact Nat.lt_of_lt_of_le h1 (Nat.pow_le_pow_right (by decide) (by decide))
structure IntsD (h:Heap) (vs:List Value) (is:List Int):Prop where
 reads:∃ as,ReadsAll h vs (is.map .int) as
 shw:PyData.showableAll (is.map .int)=true
 dict:PyData.hasDictAll (is.map .int)=false
 depth:PyData.depthAll (is.map .int)<=1
 len:(PyData.shownAll (is.map .int)).length=is.length
 sum:((PyData.shownAll (is.map .int)).map (·.length)).sum<=13 * is.length
theorem ints_data {h:Heap} {vs:List Value} {is:List Int} (r:IntsAre vs is) (hm:∀ i∈is,-(2 ^ 30:Int) < i/\i < 2 ^ 30):IntsD h vs is:=by
 induction r with
 | nil=>exact ⟨⟨[],.nil⟩,rfl,rfl,by simp [PyData.depthAll],rfl,Nat.le_refl _⟩
 | @cons i t vs is r ih =>
  have d:=ih fun j hj=>hm j (.tail _ hj)
  have h1:=hm i (.head _)
  obtain ⟨as,hr⟩:=d.reads
  refine ⟨⟨[]++as,.cons (.int i t) hr⟩,?_,?_,?_,congrArg (·+1) d.len,?_⟩
  ·show PyData.showableAll (.int i::is.map .int)=true
   simp only [PyData.showableAll,PyData.showable,d.shw,Bool.and_true,decide_eq_true_eq]
   exact log2_lt ⟨Int.lt_trans (by decide) h1.1,Int.lt_trans h1.2 (by decide)⟩
  ·show PyData.hasDictAll (.int i::is.map .int)=false
   simp only [PyData.hasDictAll,PyData.hasDict,d.dict,Bool.or_false]
  ·show PyData.depthAll (.int i::is.map .int)<=1
   have:=d.depth
   simp only [PyData.depthAll,PyData.depth]
   exact Nat.max_le.mpr ⟨by decide,this⟩
  ·show (PyData.shown (.int i)).length + _<=13 * (is.length+1)
   rw [Nat.mul_succ,Nat.add_comm]
   exact Nat.add_le_add d.sum (PyData.shown_int_le (by omega))
section
variable {L n:Nat} {C:Call} {Γ:Cx} {s:Shared} {R:Reg} {st:St} {v:Value} {a:AV} {e:AE}
theorem rooms {a b c:Nat} (h:a + b + 300 < c) {d:Nat} (hd:d<=10):a + d < c:=by omega
theorem wpAny_fmt {Q:Value->Shared->Prop} {E:Value->Shared->Prop} (O:Ok Γ n C) (P:Pre Γ s R st) (r:VRel s.heap R v a) (hf:fmtP a st.H)
  (h:∀ x t h' tk,x.length<=20000->(∀ b o,s.heap.get? b=some o->h'.get? b=some o)->Q (.str x t) { s with heap:=h',toks:=tk }):wpAny Γ.M Γ.A (formatField v Str.empty) Q E s:=by
 cases a with
 | int i =>
  obtain ⟨t,rfl⟩:=r.int_v
  refine wpAny_formatField_int (log2_lt hf) (h _ _ s.heap _ ?_ fun _ _ e=>e)
  rw [PySem.ofString_length]
  exact Nat.le_trans (PySem.int_text_length_le (k:=1920) (by decide) (log2_lt hf)) (by decide)
 | ref l =>
  obtain ⟨xs,hH,is,rfl,hz,hm⟩:=hf
  obtain ⟨p,us,m,rfl,_,z,g,rv⟩:=P.lst r hH
  have d:=ints_data (h:=s.heap) (ints_are rv) hm
  obtain ⟨as,hr⟩:=d.reads
  have hl:(PyData.shown (.list (is.map .int))).length<=20000:=by
   have e1:=listText_len_le (PyData.shownAll (is.map .int))
   have e2:=d.sum
   have e3:=d.len
   simp only [PyData.shown]
   omega
  refine formatField_of_reads (h₀:=s.heap) (.list g rfl rfl (by simpa using hr)) (by simp only [PyData.showable];exact d.shw) (fun q=>?_) O.room.guards (rooms O.room.units ?_) (fun _ _ e=>e) (fun h' u tk hk=>h _ u h' tk hl hk) (Nat.le_trans hl (by decide))
  ·simp only [PyData.hasDict] at q;rw [d.dict] at q;cases q
  ·have:=d.depth
   simp only [PyData.depth]
   omega
 | _=>exact hf.elim
abbrev AnyRel:Rl Value Unit:=fun _ _ _ _=>True
theorem part_le {a b m:Nat} (h:a + (m+1) * 20000<=500000) (hb:b<=20000):a + b + m * 20000<=500000/\¬ a + b>sizeLine:=by
 show _/\¬ a + b>16777216
 omega
theorem sim_parts (fs:AFs):∀ (out:Str) (Γ:Cx) (s:Shared) (R:Reg) (st:St),Ok Γ n C->Pre Γ s R st->okFs L Γ.X.names Γ.X.env.scope.names fs=true->out.length + fs.len * 20000<=500000 →
  SimAt Γ AnyRel (joinParts out (evalEach (toFs L Γ.X.names fs) Γ.X.env)) (fun Q E=>vF T C fs st (fun st=>Q () st) E) s R:=by
 induction fs with
 | nil=>exact fun out Γ s R st O P hx hz=>.leaf (a:=()) P fun k=>wpAny_mkStr (k _ _ trivial) (Nat.le_trans (Nat.le_trans (Nat.le_add_right _ _) hz) (by decide))
 | txt t p r ih =>
  intro out Γ s R st O P hx hz
  show SimAt Γ AnyRel (joinParts out (eval (.Constant (.str (Str.ofString t)) 0 (dp L p)) Γ.X.env::evalEach (toFs L Γ.X.names r) Γ.X.env)) (fun Q E=>vF T C r st (fun st=>Q () st) E) s R
  have hl:=part_le hz (Nat.le_trans (Nat.le_of_ble_eq_true (and_l hx)) (by decide))
  rw [joinParts,arm_eval_Constant]
  refine SimAt.bind (rel:=fun _ _ v _=>∃ tk,v=.str (Str.ofString t) tk) (p:=fun Q _=>Q () st) (g:=fun _ st Q E=>vF T C r st (fun st=>Q () st) E) (.leaf (a:=()) P fun k=>wpAny_mkText (k _ _ ⟨_,rfl⟩)) fun v s1 _ st1 R1 af1 hv=>?_
  obtain ⟨tk,rfl⟩:=hv
  refine .pureBind ?_
  dsimp only
  rw [if_neg hl.2]
  exact ih _ Γ s1 R1 st1 O af1.pre (and_r hx) (by rw [strLen_append];exact hl.1)
 | fmt e p r ih =>
  intro out Γ s R st O P hx hz
  show SimAt Γ AnyRel (joinParts out (eval (.FormattedValue (toE L e Γ.X.names) (-1) none (dp L p)) Γ.X.env::evalEach (toFs L Γ.X.names r) Γ.X.env)) (fun Q E=>vE T C e st (fun v st=>fmtP v st.H/\vF T C r st (fun st=>Q () st) E) E) s R
  rw [joinParts,arm_eval_FormattedValue]
  intro Q E hp
  refine wpP_bind (wpP_bind (wpP_mono ((sound_e e).se _ s R st O P (and_l hx) _ _ hp) ?_ fun _ _ x=>x))
  rintro v s1 ⟨a,st1,R1,hq,af1,r1⟩
  refine wpP_bind (wpP_standAt (wpP_bind (wpP_holding (wpP_pure ?_))))
  show wpP _ Γ.A (formatField v Str.empty) _ _ s1
  refine wpP_of (wpAny_fmt O af1.pre r1 hq.1 fun x t h' tk hl hk=>?_)
  have af2:=After.keepAll (tk:=tk) af1.pre hk
  have hl:=part_le hz hl
  refine wpP_bind (wpP_pure ?_)
  dsimp only
  rw [if_neg hl.2]
  have af:=af1.trans af2
  exact wpP_mono (ih _ Γ _ _ st1 O af2.pre (and_r hx) (by rw [strLen_append];exact hl.1) Q E hq.2) (fun _ _=>Lift.after af) fun _ _=>LiftE.after af
end
end Ab
end
section
namespace Ab
open PySem PySem.W PySem.Calls PyProof.Rows PyProof.Rows.TI
section
variable {L n:Nat} {C:Call} {Γ:Cx} {s s₀ s':Shared} {R R₀:Reg} {st st₀:St} {v:Value} {a:AV} {e:AE}
noncomputable abbrev msgE (L:Nat) (N:List String) (t:Option String) (fs:AFs) (p:Nat):Expr:=Option.casesOn t (.JoinedStr (toFs L N fs) (dp L p)) fun x=>.Constant (.str (Str.ofString x)) 0 (dp L p)
theorem sim_msg {t:Option String} {fs:AFs} {p:Nat} (O:Ok Γ n C) (P:Pre Γ s R st) (h:Option.casesOn (motive:=fun _=>Bool) t (Nat.ble 2 fs.len&&Nat.ble fs.len 20&&okFs L Γ.X.names Γ.X.env.scope.names fs) (fun _=>Nat.beq fs.len 0)=true) :
  SimAt Γ AnyRel (eval (msgE L Γ.X.names t fs p) Γ.X.env) (fun Q E=>vF T C fs st (fun st=>Q () st) E) s R:=by
 cases t with
 | some x =>
  have e1:fs=.nil:=by cases fs <;> first|rfl|exact nomatch (show false=true from h)
  subst e1
  show SimAt Γ AnyRel (eval (.Constant (.str (Str.ofString x)) 0 (dp L p)) Γ.X.env) (fun Q E=>Q () st) s R
  rw [arm_eval_Constant]
  exact .leaf (a:=()) P fun k=>wpAny_mkText (k _ _ trivial)
 | none =>
  have e1:eval (.JoinedStr (toFs L Γ.X.names fs) (dp L p)) Γ.X.env=joinParts Str.empty (evalEach (toFs L Γ.X.names fs) Γ.X.env):=by
   cases fs with
   | nil=>exact nomatch (show false=true from and_l (and_l h))
   | txt _ _ r=>cases r <;> first|rfl|exact nomatch (show false=true from and_l (and_l h))
   | fmt _ _ r=>cases r <;> first|rfl|exact nomatch (show false=true from and_l (and_l h))
  show SimAt Γ AnyRel (eval (.JoinedStr (toFs L Γ.X.names fs) (dp L p)) Γ.X.env) _ s R
  rw [e1]
  have hl:=Nat.le_of_ble_eq_true (and_r (and_l h))
  exact sim_parts fs Str.empty Γ s R st O P (and_r h) (by show 0 + _<=_;omega)
theorem msg_star {t:Option String} {fs:AFs} {p:Nat} {N:List String} {env:Env}:starEach [msgE L N t fs p] env=[(false,eval (msgE L N t fs p) env)]:=by cases t <;> rfl
inductive OneV (h:Heap) (R:Reg) (vs:List Value) (u:Unit):Prop
 | mk (v:Value) (e:vs=[v])
theorem ss_raise {c ps pn pc p:Nat} {t:Option String} {fs:AFs}:SS L n C (.raise c t fs ps pn pc p):=fun Γ s R st O FX P hx=>by
 have g:=gOk_of (and_l hx)
 show SimAt Γ FlRel (standAt (dp L p) >>= fun _=>raiseStmt Γ.X.env (some (eval (.Call (.Name (Str.ofString (nm c)) (dp L pn)) [msgE L Γ.X.names t fs ps] [] (dp L pc)) Γ.X.env >>= fun v=>standAt (dp L p) >>= fun _=>pure v)) none) (fun Q E=>T.isExc c=true/\vF T C fs st (fun st=>E c st) E) s R
 refine .standAt (.and (p:=fun _ E=>vF T C fs st (fun st=>E c st) E) fun hc Q E hp=>?_)
 have X:=O.st.exc c hc
 show wpP _ Γ.A ((eval (.Call (.Name (Str.ofString (nm c)) (dp L pn)) [msgE L Γ.X.names t fs ps] [] (dp L pc)) Γ.X.env >>= fun v=>standAt (dp L p) >>= fun _=>pure v) >>= fun xv=>raiseStmt Γ.X.env (some (pure xv)) none) _ _ s
 refine wpP_bind (wpP_bind ?_)
 rw [arm_eval_Call_Name']
 refine wpP_bind (wpP_globalV P O.fx O.st.g g.k g.d X.g ?_)
 unfold callWith
 have hsp:SimAt Γ OneV (spliced (backTo (dp L pc) (starEach [msgE L Γ.X.names t fs ps] Γ.X.env))) (fun Q E=>vF T C fs st (fun st=>Q () st) E) s R:=by
  rw [msg_star]
  show SimAt Γ OneV (spliced [(false,eval (msgE L Γ.X.names t fs ps) Γ.X.env)]) _ s R
  rw [spliced]
  refine SimAt.bind (g:=fun u st Q _=>Q u st) (sim_msg O P (and_r hx)) fun v s1 u st1 R1 af1 _=>?_
  simp only [Bool.false_eq_true,if_false]
  exact .pureBind fun Q E hp=>wpP_bind (wpP_holding (wpP_pure (wpP_pure ⟨u,st1,R1,hp,.refl af1.pre,v,rfl⟩)))
 have hst3:(backTo (dp L pc) (starEach [msgE L Γ.X.names t fs ps] Γ.X.env)).any (·.1)=false:=by rw [msg_star];rfl
 refine wpP_bind (wpP_holding (wpP_mono (sim_evalArgs (f:=.ref (CA c)) hst3 hsp (fun _ st=>E c st) E hp) ?_ fun _ _ x=>x))
 rintro a s1 ⟨u,st1,R1,hq,af,hkw,v,hv⟩
 obtain ⟨apos,akw⟩:=a
 obtain rfl:akw=[]:=hkw
 obtain rfl:apos=[v]:=hv
 refine wpP_bind (wpP_standAt ?_)
 simp only [hst3]
 refine wpP_bind (wpP_of (wpAny_keeper_exc X.ok af.pre.sat.keep ?_))
 refine wpP_bind (wpP_of (wpAny_make_exc X.ok af.pre.sat.keep (by simp;decide) fun h' ee M=>?_))
 refine wpP_bind (wpP_holding (wpP_of (wpAny_point (wpP_pure ?_))))
 refine wpP_bind (wpP_standAt (wpP_pure ?_))
 obtain ⟨hkeep,hnew,t,ht,_,_⟩:=M
 exact wpP_of (wpAny_raise_made (s:={ s1 with heap:=h' }) X.ok (fun b o e=>hkeep _ _ (af.pre.sat.keep b o e)) O.room.handled ht
  ⟨c,st1,R1,hq,af.trans (After.keepAll (tk:=s1.toks) af.pre hkeep),ee,_,_,rfl,get_none af.step.live hnew,ht,rfl,rfl,by simp,.no rfl⟩)
theorem codeP_suite {prog:Program} {w:World} {e:Value} {b₀:Stmt} {body:List Stmt} {pos:Pos} {env:Env} {A:Around} {Rr:Result->Shared->Prop}
  (h:wpP (model prog w) A (setFlight e none) (fun _ s₁=>wpP (model prog w) A (execs (b₀::body) env) (fun f s₂=>Rr (.ok f) s₂) (fun _ _=>False) s₁) (fun _ _=>False) s) :
  codeP (model prog w) A (.handlers e [.ExceptHandler none none (b₀::body) pos] env) Rr s:=by
 refine codeP_of_tree ?_ rfl
 show wpP _ A (do return Fin.done (← (handleWith e env [.ExceptHandler none none (b₀::body) pos]).onRaise (fun x=>do noteFrame x env;theTreesLotGoes x))) _ _ s
 refine wpP_bind (wpP_onRaise ?_)
 unfold handleWith
 exact wpP_bind (wpP_standAt (wpP_bind (wpP_mono h (fun _ s₁ h₁=>wpP_mono h₁ (fun f s₂ h₂=>wpP_pure h₂) fun _ _ x=>x.elim) fun _ _ x=>x.elim)))
theorem wp_handle {c:Nat} {e:Addr} {v3:Value} {Q:Fl->St->Prop} {E:KX} (O:Ok Γ n C) (FX:FnFx Γ.X) (P₀:Pre Γ s₀ R₀ st₀) (af:After Γ s₀ R₀ s R st) (tr:Trc s₀.heap s.heap e (CA c) v3) (hs:List HRow) :
  (hs.all fun h=>isG Γ.X.env.scope.names h.c&&okCst h.v)=true->handle T c st Q E hs->wpP Γ.M Γ.A (handleBy (.ref e) Γ.X.env (hs.map (toH L))) (Lift Γ FlRel s₀ R₀ Q) (LiftE Γ s₀ R₀ E) s:=by
 obtain ⟨T',oe,vs,oT,ts,n0,nT,ne,g1,g2,g3,g4,g5,g6,g7⟩:=id tr
 induction hs with
 | nil =>
  intro _ hp
  show wpP _ Γ.A (PySem.passOn "try.no-clause-matches" (.ref e) Γ.X.env) _ _ s
  unfold PySem.passOn
  refine wpP_bind (wpP_of (wpAny_field g1 g3 g4 ?_))
  rw [if_neg (by simp)]
  exact wpP_bind (wpP_of (flight_station (fl:=Γ.X.env.frame) O.fx P₀ af tr fun h' af2 tr2=>wpP_throw ⟨c,st,R,hp,af2,tr2.exc (.inr (by rw [FX.frame];exact ⟨_,rfl,rfl⟩))⟩))
 | cons d r ih =>
  intro hx hp
  rw [List.all_cons] at hx
  obtain ⟨hc1,hc2,hp⟩:=hp
  have g:=gOk_of (and_l (and_l hx))
  have LT:Looks Γ.M s.heap (typeOf (.ref e)) (.ref (CA c)):=g2▸(Looks.ld g1).andThen .now
  have test:∀ {Q:Flow->Shared->Prop} {E:Value->Shared->Prop},Q (if T.sub c d.c then .brk else .next) s->wpAny Γ.M Γ.A (runOwn (.handlers (.ref e) [.ExceptHandler (some (.Name (Str.ofString (nm d.c)) (dp L d.pn))) none [] (dp L d.p)] Γ.X.env) Γ.X.env (some (.ref e))) Q E s:=fun hq=>by
   refine wpAny_runOwn (codeAny_handlers_test ?_)
   refine Name_function_global O.fx.kind g.k (loadGlobal_global (O.fx.globals▸O.st.g.keeps af.pre.sat.keep) (O.st.exc d.c hc2).g ?_) g.d
   exact (exm_one (inB O.st.frag af.pre) LT (O.st.sub c d.c hc1 hc2)).here hq
  show wpP _ Γ.A (handleBy (.ref e) Γ.X.env (toH L d::r.map (toH L))) _ _ s
  rw [show toH L d=.ExceptHandler (some (.Name (Str.ofString (nm d.c)) (dp L d.pn))) none [.Return (some (.Constant (constOf d.v) 0 (dp L d.pv))) (dp L d.pr)] (dp L d.p) from rfl,handleBy]
  refine wpP_bind (wpP_holding (wpP_of (test ?_)))
  cases hb:T.sub c d.c with
  | false =>
   rw [hb] at hp
   refine wpP_bind (wpP_pure ?_)
   dsimp only
   rw [if_pos (by rfl)]
   exact ih (and_r hx) hp
  | true =>
   rw [hb] at hp
   simp only [if_true]
   refine wpP_bind (wpP_pure ?_)
   rw [if_neg (by decide)]
   refine wpP_bind (wpP_holding ?_)
   unfold runOwn
   refine wpP_onRaise (wpP_run (codeP_suite ?_))
   refine wpP_of (flight_station (Γ:=⟨Γ.G,Γ.A.mark (some (.ref e)),Γ.X⟩) (fl:=none) O.fx (P₀.around rfl rfl) (af.around rfl rfl) tr fun h' af2 tr2=>?_)
   rw [execs]
   show wpP _ _ ((standAt (dp L d.pr) >>= fun _=>eval (.Constant (constOf d.v) 0 (dp L d.pv)) Γ.X.env >>= fun v=>pure (Flow.ret v)) >>= fun f=>match f with|.next=>execs [] Γ.X.env|f=>pure f) _ _ _
   refine wpP_bind (wpP_bind (wpP_standAt (wpP_bind (wpP_mono (sim_cst (Γ:=⟨Γ.G,Γ.A.mark (some (.ref e)),Γ.X⟩) af2.pre (and_r (and_l hx)) (fun v st=>Q (.ret v) st) (fun _ _=>False) hp) ?_ fun _ _ x=>x.casesOn fun _ _ _ h=>h.elim))))
   rintro v s3 ⟨a,st3,R3,hq,af3,r3⟩
   exact wpP_pure (wpP_pure (wpP_pure ⟨_,_,R3,hq,(af2.trans af3).around rfl rfl,.ret r3⟩))
theorem ss_try {b:ASs} {hs:List HRow} {p:Nat} (hb:SSs L n C b):SS L n C (.try b hs p):=fun Γ s R st O FX P hx=>by
 show SimAt Γ FlRel (exec (.Try (toSs L Γ.X.names b) (hs.map (toH L)) [] [] (dp L p)) Γ.X.env) (fun Q E=>vSs T C b st Q fun c st=>handle T c st Q E hs) s R
 have h1:=and_l hx
 rw [arm_exec_Try]
 refine .standAt fun Q E hp=>?_
 unfold tryStmt
 simp only [List.isEmpty_nil,if_true]
 refine wpP_bind (wpP_attempt (wpP_mono (hb _ s R st O FX P (and_l h1) _ _ hp) (fun f s1 x=>?_) ?_))
 ·obtain ⟨fl,st1,R1,hq,af,rl⟩:=x
  cases rl with
  | next=>exact wpP_pure ⟨_,st1,R1,hq,af,.next⟩
  | ret r=>exact wpP_pure ⟨_,st1,R1,hq,af,.ret r⟩
 ·rintro x s1 ⟨c,st1,R1,hq,af,ex⟩
  have hemp:(hs.map (toH L)).isEmpty=false:=by cases hs with
   | nil=>exact nomatch (show false=true from and_r hx)
   | cons a b=>rfl
  dsimp only
  refine wpP_bind (wpP_of (note_station FX O.room.frames O.fx P af ex fun h1' ee hx' af1 tr1=>?_))
  subst hx'
  simp only [hemp,Bool.false_eq_true,if_false,Bool.false_and]
  exact wpP_bind (wpP_of (flight_station (s':={ s1 with heap:=h1' }) (fl:=none) O.fx P af1 tr1 fun h2' af2 tr2=>wp_handle O FX P af2 tr2 hs (and_r h1) hq))
theorem sound_ss (as:ASs):SSs L n C as:=ASs.rec (motive_1:=SS L n C) (motive_2:=SSs L n C)
 (fun e p=>ss_expr) (fun e p=>ss_ret) (fun p=>ss_ret0) (fun t e p=>ss_asg) (fun i op e p q=>ss_aug) (fun i a op e p q r=>ss_augAttr) (fun c b o p hb ho=>ss_ite hb ho) (fun c b p hb=>ss_whl hb)
 (fun t it b p hb=>ss_for hb) (fun c t fs p q r x=>ss_raise) (fun b hs p hb=>ss_try hb) sss_nil (fun s ss h hs=>sss_cons h hs) as
end
theorem sound_call {G:Gx} (S:Stat G) (n:Nat):CallOk G n (callN T n):=by
 induction n with
 | zero=>exact fun A X s R st c f fd as vals hF hr K P hv Q E hp=>hp.elim
 | succ n ih =>
  intro A X s R st c f fd as vals hF hr K P hv Q E hp
  obtain ⟨d,F,ok,okn⟩:=(S.fn c f fd hF).ok
  have hp:optP (T.fn c f) fun fd=>vCall T (callN T n) fd as st.H (fun v H=>Q v ⟨st.fr,H⟩) fun e H=>E e ⟨st.fr,H⟩:=hp
  rw [hF] at hp
  exact sim_callF (Γ:=⟨G,A,X⟩) hr S.lim P K.enter F hv (fun A' X' s' R' st' hr' K' FX' P' e1 e2=>sound_ss fd.body _ s' R' st' ⟨S,ih,hr',K',e1▸okn⟩ FX' P' (by show okSs fd.line X'.names X'.env.scope.names fd.body=true;rw [e1,e2];exact ok)) Q E hp
end Ab
end
section
namespace Ab
open PySem PySem.W PySem.Calls PyProof.Rows PyProof.Rows.TI
noncomputable def fdAt (K:Frag) (a:Addr):Option FuncData:=match K.lookup a with
 | some ⟨_,_,.func d,_⟩=>some d
 | _=>none
noncomputable def dAt (K:Frag) (r:FRow):FuncData:=(fdAt K r.a).getD default
noncomputable def codeAt (K:Frag) (cd:Value) (q:Str):Bool:=match cd with
 | .ref c=>(match K.lookup c with
  | some ⟨_,_,.fields vs,_⟩=>(match (vs[1]?:Option Value) with
   | some (Value.str q' _)=>q==q'
   | _=>false)
  | _=>false)
 | _=>false
noncomputable def dfltsAt (K:Frag) (d:FuncData):List Value:=match d.defaults with
 | .ref a=>(match K.lookup a with
  | some ⟨_,_,.seq vs _,_⟩=>vs.toList
  | _=>[])
 | _=>[]
noncomputable def isIntV (v:Value) (a:AV):Bool:=match v,a with
 | .int i _,.int j=>i==j
 | _,_=>false
noncomputable def intsV:List Value->List AV->Bool
 | [],as=>as.isEmpty
 | v::vs,as=>List.casesOn as false fun a as=>isIntV v a&&intsV vs as
noncomputable def rowChk (K:Frag) (r:FRow):Bool:=bif Nat.beq r.c 0 then nsIn K mainGlobals (Str.ofString (nm r.f))==some (some (.ref r.a)) else
 Nat.blt r.f NM&&plainGet K (CA r.c) (Str.ofString (nm r.f))&&findIn K (.ref (CA r.c)) (Str.ofString (nm r.f))==some (some (.ref r.a))&&isFn K (.ref r.a)
noncomputable def fn1 (K:Frag) (r:FRow):Bool:=(fdAt K r.a).isSome&&codeAt K (dAt K r).code (dAt K r).qualname&&!(dAt K r).scope.isCoroutine&&!(dAt K r).scope.isGenerator&&(dAt K r).scope.kind==.function&&(dAt K r).closure.isEmpty &&
 (dAt K r).globals==mainGlobals&&(dAt K r).builtins==builtinsNs
noncomputable def fn2 (K:Frag) (r:FRow):Bool:=decide r.fd.names.Nodup&&Nat.ble r.fd.np r.fd.names.length &&
 (r.fd.names.take r.fd.np).all (fun x=>(dAt K r).scope.names.lookup (Str.ofString x)==some .local || (dAt K r).scope.names.lookup (Str.ofString x)==some .cell) &&
 decide (((dAt K r).scope.names.map (·.1)).Nodup)&&(dAt K r).scope.names.all (fun x=>x.2 != .free)
noncomputable def fn3 (K:Frag) (r:FRow):Bool:=okSs r.fd.line r.fd.names (dAt K r).scope.names r.fd.body&&okN r.fd.names&&keepIn K (.ref r.a)&&rowChk K r&&intsV (dfltsAt K (dAt K r)) r.fd.dflts
noncomputable def fnBind (K:Frag) (S:Setting) (v:Nat->Value) (r:FRow) (j:Nat):Option (List (Str×Value)):=peek K S (bindArgs (dAt K r) ⟨(List.range (r.fd.np - j)).map v,[]⟩)
noncomputable def fnBound (K:Frag) (v:Nat->Value) (r:FRow) (j:Nat):Option (List (Str×Value)):=some (((r.fd.names.take r.fd.np).map Str.ofString).zip ((List.range (r.fd.np - j)).map v++(dfltsAt K (dAt K r)).drop (r.fd.dflts.length - j)))
noncomputable def fieldChk (K:Frag) (C:Addr) (a:Nat):Bool:=Nat.blt a NM&&plainGet K C (Str.ofString (nm a))&&hasDictIn K C&&(match findIn K (.ref C) (Str.ofString (nm a)) with
  | some attr=>noGet K attr
  | none=>false)&&findIn K (.ref C) "__setattr__"==some (some (.builtin "object.__setattr__"))&&plainOver K C&&takerIn K C (Str.ofString (nm a))==some none
noncomputable def clsChk (K:Frag) (r:CRow):Bool:=(T.fn r.c 1).isSome&&nsIn K mainGlobals (Str.ofString (nm r.c))==some (some (.ref r.C))&&makesIn K r.C&&findIn K (.ref r.C) "__init__"==some (some (.ref (fa r.c 1))) &&
 typeIn K (.ref (fa r.c 1))==some (.type "function")&&keepIn K (.ref r.C)&&r.fields.all fun a=>fieldChk K r.C a
noncomputable def glbChk (K:Frag) (p:Nat×Int):Bool:=match nsIn K mainGlobals (Str.ofString (nm p.1)) with
 | some (some (.int i _))=>i==p.2
 | _=>false
noncomputable def primNames:List String:=["len","bytes","bytearray","tuple","sum","min","max","range","sorted","list","isinstance"]
noncomputable def strKey (e:DictEntry):Bool:=match e.key with
 | .str _ _=>true
 | _=>false
noncomputable def nsQuiet (K:Frag) (N:Addr):Bool:=match K.lookup N with
 | some ⟨_,_,.dict es _,_⟩=>es.toList.all strKey&&(es.toList.find? (·.key.isStr "__init__")).isNone
 | _=>false
def excTop:List Value:=[.type "Exception",.type "BaseException",.type "object"]
noncomputable def tailChk (K:Frag):List Value->Bool
 | []=>false
 | v::tl=>v::tl==excTop || match v with
  | .ref A=>(match K.lookup A with
   | some ⟨_,_,.cls cd,_⟩=>nsQuiet K cd.ns&&tailChk K tl
   | _=>false)
  | _=>false
noncomputable def excChk (K:Frag) (C:Addr):Bool:=match K.lookup C with
 | some ⟨c,_,.cls cd,sl⟩=>c==.type "type"&&cd.mro.head?==some (.ref C)&&!cd.hasDel&&(match sl.toList with
   | [_,_,_,_,k4,_]=>k4==some (.builtin "Exception.__new__")
   | _=>false)&&nsQuiet K cd.ns&&tailChk K cd.mro.tail&&cd.mro.tail.contains (.type "BaseException")
 | _=>false
structure StatIn (K:Frag):Prop where
 f1:rows.all (fn1 K)=true
 f2:rows.all (fn2 K)=true
 f3:rows.all (fn3 K)=true
 body:rows.map (fun r=>(dAt K r).body)=rows.map fun r=>.stmts (toSs r.fd.line r.fd.names r.fd.body)
 bind:∀ S v,rows.map (fun r=>(List.range (r.fd.dflts.length+1)).map (fnBind K S v r))=rows.map fun r=>(List.range (r.fd.dflts.length+1)).map (fnBound K v r)
 cls:crows.all (clsChk K)=true
 glb:glbs.all (glbChk K)=true
 prim:primNames.all (fun x=>nsIn K mainGlobals (Str.ofString x)==some none)=true
 exc:erows.all (fun r=>CA r.c==r.C&&nsIn K mainGlobals (Str.ofString (nm r.c))==some (some (.ref r.C))&&excChk K r.C)=true
 sub:erows.all (fun a=>erows.all fun b=>exmOne K (.ref a.C) (.ref b.C)==some (T.sub a.c b.c))=true
theorem map_at {α β:Type} {f g:α->β} {l:List α} (h:l.map f=l.map g) {x:α} (hx:x∈l):f x=g x:=by
 induction l with
 | nil=>cases hx
 | cons y r ih =>
  have h:=List.cons.inj h
  exact (List.mem_cons.mp hx).elim (fun q=>q▸h.1) fun hx=>ih h.2 hx
theorem row_some {l:List FRow} {c f:Nat} {r:FRow} (h:rowOf l c f=some r):r∈l/\r.c=c/\r.f=f:=by
 induction l with
 | nil=>cases h
 | cons y l ih =>
  rw [rowOf] at h
  cases hb:Nat.beq y.c c&&Nat.beq y.f f with
  | true=>rw [hb] at h;cases h;exact ⟨.head _,Nat.eq_of_beq_eq_true (Bool.and_eq_true_iff.mp hb).1,Nat.eq_of_beq_eq_true (Bool.and_eq_true_iff.mp hb).2⟩
  | false=>rw [hb] at h;have q:=ih h;exact ⟨.tail _ q.1,q.2⟩
theorem crow_some {l:List CRow} {c:Nat} {r:CRow} (h:crowOf l c=some r):r∈l/\r.c=c:=by
 induction l with
 | nil=>cases h
 | cons y l ih =>
  rw [crowOf] at h
  cases hb:Nat.beq y.c c with
  | true=>rw [hb] at h;cases h;exact ⟨.head _,Nat.eq_of_beq_eq_true hb⟩
  | false=>rw [hb] at h;have q:=ih h;exact ⟨.tail _ q.1,q.2⟩
theorem erow_some {l:List ERow} {c:Nat} {r:ERow} (h:erowOf l c=some r):r∈l/\r.c=c:=by
 induction l with
 | nil=>cases h
 | cons y l ih =>
  rw [erowOf] at h
  cases hb:Nat.beq y.c c with
  | true=>rw [hb] at h;cases h;exact ⟨.head _,Nat.eq_of_beq_eq_true hb⟩
  | false=>rw [hb] at h;have q:=ih h;exact ⟨.tail _ q.1,q.2⟩
theorem glb_some {l:List (Nat×Int)} {x:Nat} {i:Int} (h:glbOf l x=some i):(x,i)∈l:=by
 induction l with
 | nil=>cases h
 | cons y l ih =>
  rw [glbOf] at h
  cases hb:Nat.beq y.1 x with
  | true=>rw [hb] at h;cases h;rw [<-Nat.eq_of_beq_eq_true hb];exact .head _
  | false=>rw [hb] at h;exact .tail _ (ih h)
section
variable {K:Frag} {B:Heap} {mg mb:Str->Option Value}
theorem defAt_of (hK:K.In B) {r:FRow} (h:(fdAt K r.a).isSome=true):DefAt B r.a (dAt K r):=by
 obtain ⟨d,e⟩:=Option.isSome_iff_exists.mp h
 rw [show dAt K r=d from by unfold dAt;rw [e];rfl]
 unfold fdAt at e
 split at e
 ·rename_i e';cases e;exact ⟨_,hK _ _ e',rfl⟩
 ·cases e
theorem code_of (hK:K.In B) {cd:Value} {q:Str} (h:codeAt K cd q=true):B.CodeRec cd q:=by
 unfold codeAt at h
 split at h
 ·rename_i c
  split at h
  ·rename_i cc dd vs sl e
   split at h
   ·rename_i q' t hv
    rw [beq_iff_eq.mp h]
    exact ⟨c,_,vs,t,rfl,hK _ _ e,rfl,hv⟩
   ·cases h
  ·cases h
 ·cases h
theorem ints_v {h0:Heap} {R:Reg}:∀ {vs:List Value} {as:List AV},intsV vs as=true->VRels h0 R vs as:=fun {vs}=>by
 induction vs with
 | nil=>intro as h;rw [List.isEmpty_iff.mp h];exact .nil
 | cons v vs ih =>
  intro as h
  cases as with
  | nil=>cases h
  | cons a as =>
   have q:VRel h0 R v a:=by
    have h:=(Bool.and_eq_true_iff.mp h).1
    unfold isIntV at h
    split at h
    ·rw [beq_iff_eq.mp h];exact .int _ _
    ·cases h
   exact .cons q (ih (Bool.and_eq_true_iff.mp h).2)
theorem drop_rel {h:Heap} {R:Reg} {vs:List Value} {as:List AV} (r:VRels h R vs as) (n:Nat):VRels h R (vs.drop n) (as.drop n) :=
 ⟨by rw [List.length_drop,List.length_drop,r.len],fun i v a e1 e2=>by rw [List.getElem?_drop] at e1 e2;exact r.ix _ _ _ e1 e2⟩
theorem range_map (vals:List Value):(List.range vals.length).map (fun i=>vals.getD i .none)=vals:=by
 refine List.ext_getElem? fun i=>?_
 rw [List.getElem?_map]
 by_cases hi:i < vals.length
 ·rw [List.getElem?_range hi,List.getElem?_eq_getElem hi,Option.map_some,List.getD_eq_getElem?_getD,List.getElem?_eq_getElem hi];rfl
 ·rw [List.getElem?_eq_none (by rw [List.length_range];exact Nat.not_lt.mp hi),List.getElem?_eq_none (Nat.not_lt.mp hi)];rfl
theorem or_k {o:Option NameKind} (h:(o==some .local || o==some .cell)=true):o=some .local\/o=some .cell:=((Bool.or_eq_true _ _).mp h).imp beq_iff_eq.mp beq_iff_eq.mp
theorem bind_of (hK:K.In B) (S:StatIn K) {r:FRow} (hr:r∈rows) (hd:intsV (dfltsAt K (dAt K r)) r.fd.dflts=true) (vals:List Value) (h1:vals.length<=r.fd.np) (h2:r.fd.np<=vals.length + r.fd.dflts.length):BindsOk B r.fd (dAt K r) vals:=by
 refine ⟨(dfltsAt K (dAt K r)).drop (r.fd.dflts.length - (r.fd.np - vals.length)),fun h R=>drop_rel (ints_v hd) _,fun s hk=>kp_binds (hK.keeps hk) fun S'=>?_⟩
 have q:=map_at (map_at (S.bind S' fun i=>vals.getD i .none) hr) (List.mem_range.mpr (Nat.lt_succ_of_le (Nat.sub_le_iff_le_add'.mpr h2)))
 unfold fnBind fnBound at q
 rwa [Nat.sub_sub_self h1,range_map] at q
theorem fnOk_of (hK:K.In B) (S:StatIn K) {r:FRow} (hr:r∈rows):FnOk B r.a r.fd (dAt K r):=by
 have a1:=List.all_eq_true.mp S.f1 r hr
 have a2:=and_l a1
 have a3:=and_l a2
 have a4:=and_l a3
 have a5:=and_l a4
 have a6:=and_l a5
 have a7:=and_l a6
 have b1:=List.all_eq_true.mp S.f2 r hr
 have b2:=and_l b1
 have b3:=and_l b2
 have b4:=and_l b3
 exact ⟨defAt_of hK (and_l a7),code_of hK (and_r a7),map_at S.body hr,not_t (and_r a6),not_t (and_r a5),beq_iff_eq.mp (and_r a4),List.isEmpty_iff.mp (and_r a3),beq_iff_eq.mp (and_r a2),beq_iff_eq.mp (and_r a1),
  of_decide_eq_true (and_l b4),Nat.le_of_ble_eq_true (and_r b4),fun x hx=>or_k (List.all_eq_true.mp (and_r b3) x hx),of_decide_eq_true (and_r b2),fun x hx q=>(by have:=List.all_eq_true.mp (and_r b1) x hx;rw [q] at this;cases this),
  bind_of hK S hr (and_r (List.all_eq_true.mp S.f3 r hr))⟩
theorem mg_none {n:Str} (X:K.In B) (G:B.Ns mainGlobals mg) (e:nsIn K mainGlobals n=some none):mg n=none:=by
 obtain ⟨o,es,ep,ho,hd,_,hf⟩:=G
 unfold nsIn at e
 split at e
 ·rename_i c d es' n' sl q
  have:=inj_some ho (X _ _ q)
  subst this
  cases hd
  split at e
  ·cases e
  ·rename_i he
   rw [<-hf]
   unfold nsFind findBy
   rw [<-Array.find?_toList,he]
   rfl
 ·cases e
theorem fieldOk_of {C:Addr} {a:Nat} (h:fieldChk K C a=true):FieldOk K C a:=by
 have h1:=and_l h
 have h2:=and_l h1
 have h3:=and_l h2
 have h4:=and_l h3
 have h5:=and_l h4
 refine ⟨Nat.le_of_ble_eq_true (and_l h5),and_r h5,and_r h4,?_,beq_iff_eq.mp (and_r h2),and_r h1,beq_iff_eq.mp (and_r h)⟩
 have q:=and_r h3
 split at q
 ·rename_i attr he;exact ⟨attr,he,q⟩
 ·cases q
theorem boot_prim:∀ p:Prim,bootBuiltins (Str.ofString p.name)=some (primVal p):=fun p=>by cases p <;> kernel_rfl
theorem boot_isb:bootBuiltins (Str.ofString "isinstance")=some (.builtin "isinstance"):=by kernel_rfl
theorem nsQuiet_of {N:Addr} (hK:K.In B) (x:nsQuiet K N=true):∃ m,B.Ns N m/\m "__init__"=none:=by
 unfold nsQuiet at x
 split at x
 ·rename_i c dd es n sl e
  refine ⟨nsFind es,⟨_,es,n,hK _ _ e,rfl,fun en hen=>?_,fun _=>rfl⟩,?_⟩
  ·have:=List.all_eq_true.mp (and_l x) en (Array.mem_toList_iff.mpr hen)
   unfold strKey at this
   split at this
   ·rename_i s t hq;exact ⟨s,t,hq⟩
   ·cases this
  ·unfold nsFind findBy
   rw [<-Array.find?_toList,Option.isNone_iff_eq_none.mp (and_r x)]
   rfl
 ·cases x
theorem tail_of (hK:K.In B) (l:List Value):tailChk K l=true->OwnTail B excTop l:=by
 induction l with
 | nil=>exact fun x=>nomatch x
 | cons v tl ih =>
  intro x
  refine ((Bool.or_eq_true _ _).mp x).elim (fun x=>eq_of_beq x▸.base) fun x=>?_
  split at x
  ·split at x
   ·rename_i c dd cd sl e
    obtain ⟨m,hm,hi⟩:=nsQuiet_of hK (and_l x)
    exact .own (hK _ _ e) hm hi (ih (and_r x))
   ·cases x
  ·cases x
theorem excOk_of {C:Addr} (hK:K.In B) (x:excChk K C=true):ExcOk B C:=by
 unfold excChk at x
 split at x
 ·rename_i c dd cd sl e
  have x1:=and_l x
  have x2:=and_l x1
  have x3:=and_l x2
  have x4:=and_l x3
  have x5:=and_l x4
  obtain rfl:=eq_of_beq (and_l x5)
  obtain ⟨m,hm,hi⟩:=nsQuiet_of hK (and_r x2)
  have y:=and_r x3
  split at y
  ·rename_i k0 k1 k2 k3 k4 k5 hs
   obtain rfl:=eq_of_beq y
   obtain ⟨sl⟩:=sl
   subst hs
   obtain ⟨nm,bs,mro,ns,qn,hd,sn,sub,ab,col,del⟩:=cd
   cases mro with
   | nil=>exact nomatch (show false=true from and_r x5)
   | cons v bm =>
    obtain rfl:=Option.some.inj (eq_of_beq (and_r x5))
    obtain rfl:del=false:=not_t (and_r x4)
    exact ⟨⟨nm,qn,ns,bs,bm,hd,sn,sub,ab,col,dd,k0,k1,k2,k3,k5,m,hK _ _ e,hm,hi,tail_of hK _ (and_r x1),and_r x⟩⟩
  ·cases y
 ·cases x
theorem isSome_row {c f:Nat} {fd:FD} (h:T.fn c f=some fd):∃ r∈rows,r.c=c/\r.f=f/\r.fd=fd/\fa c f=r.a:=by
 obtain ⟨r,h1,h2⟩:=Option.map_eq_some_iff.mp h
 have q:=row_some h1
 exact ⟨r,q.1,q.2.1,q.2.2,h2,by unfold fa;rw [h1];rfl⟩
theorem fin3 (S:StatIn K) {r:FRow} (hr:r∈rows):rowChk K r=true:=and_r (and_l (List.all_eq_true.mp S.f3 r hr))
theorem prim_in (p:Prim):p.name∈primNames/\Str.ofString p.name≠("__name__":Str):=by cases p <;> exact ⟨by decide,by decide +kernel⟩
theorem crow_of {c:Nat} (h:T.cls c=true):∃ r∈crows,r.c=c/\CA c=r.C:=by
 obtain ⟨r,e⟩:=Option.isSome_iff_exists.mp h
 have q:=crow_some e
 exact ⟨r,q.1,q.2,by unfold CA;rw [e]⟩
theorem erow_of {c:Nat} (h:T.isExc c=true):∃ r∈erows,r.c=c:=by
 obtain ⟨r,e⟩:=Option.isSome_iff_exists.mp h
 have q:=erow_some e
 exact ⟨r,q.1,q.2⟩
theorem stat_of {prog:Program} {w:World} (hK:K.In B) (hg:B.Ns mainGlobals mg) (hb:B.Ns builtinsNs mb) (hl:B.NoLimit) (hboot:∀ x:Str,x≠"__name__"->mb x=bootBuiltins x) (S:StatIn K):Stat ⟨prog,w,B,K,mg,mb⟩ where
 frag:=hK
 g:=hg
 b:=hb
 lim:=hl
 glb x i h:=by
  have q:=List.all_eq_true.mp S.glb _ (glb_some h)
  unfold glbChk at q
  split at q
  ·rename_i j t e;obtain rfl:j=i:=beq_iff_eq.mp q;exact ⟨t,mg_of hK hg e⟩
  ·cases q
 fn c f fd h:=by
  obtain ⟨r,hr,rfl,rfl,rfl,e⟩:=isSome_row h
  have q:=and_l (and_l (List.all_eq_true.mp S.f3 r hr))
  exact ⟨⟨dAt K r,e▸fnOk_of hK S hr,and_l (and_l q),and_r (and_l q)⟩,e▸and_r q⟩
 fnG f fd h:=by
  obtain ⟨r,hr,hc,rfl,rfl,e⟩:=isSome_row h
  have q:=fin3 S hr
  unfold rowChk at q
  rw [hc] at q
  exact e▸mg_of hK hg (beq_iff_eq.mp q)
 prim p:=⟨mg_none hK hg (beq_iff_eq.mp (List.all_eq_true.mp S.prim _ (prim_in p).1)),(hboot _ (prim_in p).2).trans (boot_prim p)⟩
 isb:=⟨mg_none hK hg (beq_iff_eq.mp (List.all_eq_true.mp S.prim "isinstance" (by decide))),(hboot _ (by decide +kernel)).trans boot_isb⟩
 cls c h:=by
  obtain ⟨r,hr,rfl,e⟩:=crow_of h
  have h1:=and_l (List.all_eq_true.mp S.cls r hr)
  have h2:=and_l h1
  have h3:=and_l h2
  have h4:=and_l h3
  have h5:=and_l h4
  exact ⟨Option.isSome_iff_exists.mp (and_l h5),e▸mg_of hK hg (beq_iff_eq.mp (and_r h5)),e▸and_r h4,e▸beq_iff_eq.mp (and_r h3),beq_iff_eq.mp (and_r h2),e▸and_r h1⟩
 meth c m fd h hc:=by
  obtain ⟨r,hr,rfl,rfl,rfl,e⟩:=isSome_row h
  have q:=fin3 S hr
  unfold rowChk at q
  rw [show Nat.beq r.c 0=false from Bool.eq_false_iff.mpr fun z=>hc (Nat.eq_of_beq_eq_true z)] at q
  have q1:=and_l q
  have q2:=and_l q1
  exact ⟨Nat.le_of_ble_eq_true (and_l q2),and_r q2,e▸beq_iff_eq.mp (and_r q1),e▸and_r q⟩
 field c a h:=by
  obtain ⟨r,h1,h2⟩:=(Option.any_eq_true _ _).mp h
  have q:=crow_some h1
  obtain ⟨b,hb,e⟩:=List.any_eq_true.mp h2
  obtain rfl:=Nat.eq_of_beq_eq_true e
  rw [show CA c=r.C from by unfold CA;rw [h1]]
  exact fieldOk_of (List.all_eq_true.mp (and_r (List.all_eq_true.mp S.cls r q.1)) _ hb)
 sub a b ha hb:=by
  obtain ⟨ra,m1,rfl⟩:=erow_of ha
  obtain ⟨rb,m2,rfl⟩:=erow_of hb
  rw [beq_iff_eq.mp (and_l (and_l (List.all_eq_true.mp S.exc ra m1))),beq_iff_eq.mp (and_l (and_l (List.all_eq_true.mp S.exc rb m2)))]
  exact beq_iff_eq.mp (List.all_eq_true.mp (List.all_eq_true.mp S.sub ra m1) rb m2)
 exc c hc:=by
  obtain ⟨r,m1,rfl⟩:=erow_of hc
  have q:=List.all_eq_true.mp S.exc r m1
  have e:=beq_iff_eq.mp (and_l (and_l q))
  exact ⟨e▸mg_of hK hg (beq_iff_eq.mp (and_r (and_l q))),e▸excOk_of hK (and_r q)⟩
end
end Ab
end
section
namespace Ab
open PySem PySem.W PySem.Calls PyProof.Rows PyProof.Rows.TI
def topFx:Fx:=⟨{ scope:=default,locals:=mainGlobals,globals:=mainGlobals,cells:=[] },[],[],[],[]⟩
def noLists (K:Frag):Bool:=K.all fun p=>p.2.cls != .type "list"
theorem lookup_mem' {K:Frag} {a:Addr} {o:Obj} (h:K.lookup a=some o):(a,o)∈K:=by
 induction K with
 | nil=>cases h
 | cons p r ih =>
  obtain ⟨b,x⟩:=p
  rw [List.lookup] at h
  split at h
  ·rename_i q;cases h;rw [beq_iff_eq.mp q];exact .head _
  ·exact .tail _ (ih h)
theorem ns_gone {h:Heap} {a l:Addr} {m:Str->Option Value} {its:List Value} {n:Nat} (hn:h.Ns a m) (hl:h.get? l=some (listOf its.toArray n)):(gone h [l]).Ns a m:=by
 obtain ⟨o,es,ep,g,hd,r⟩:=hn
 refine ⟨o,es,ep,?_,hd,r⟩
 rw [gone_get]
 ·exact g
 ·intro hm
  rw [List.mem_singleton.mp hm,hl] at g
  cases g
  cases hd
theorem int_has {x:WData} (h:WShape.has [] x .int=true):∃ i,x=.int i:=by
 cases x <;> first|exact ⟨_,rfl⟩|exact nomatch (show false=true from h)
theorem ints_of_has {P:Params} {h:Heap} {xs:List WData}:∀ {vs:List Value},WShape.hasItems [] xs .int=true->WellAll P h vs xs->∃ nums:List Int,xs.length=nums.length/\IntsAre vs nums:=by
 induction xs with
 | nil=>intro vs _ w;cases w;exact ⟨[],rfl,.nil⟩
 | cons x xs ih =>
  intro vs hx w
  cases w with|cons w1 w2 =>
  have hx:WShape.has [] x .int=true/\WShape.hasItems [] xs .int=true:=Bool.and_eq_true_iff.mp hx
  obtain ⟨nums,e,hi⟩:=ih hx.2 w2
  obtain ⟨i,rfl⟩:=int_has hx.1
  cases w1 with|int _ t =>
  exact ⟨i::nums,congrArg (·+1) e,.cons i t hi⟩
section
variable {f n:Nat}
theorem law_run {prog:Program} {w:World} {K:Frag} {s:Shared} {mg mb:Str->Option Value} {l:Addr} {its:List Value} {nums:List Int} (hK:K.In s.heap) (hnl:noLists K=true)
  (hg:s.heap.Ns mainGlobals mg) (hb:s.heap.Ns builtinsNs mb) (hl:s.heap.NoLimit) (hboot:∀ x:Str,x≠"__name__"->mb x=bootBuiltins x) (S:StatIn K)
  (hgens:s.gens=#[]) (hlist:s.heap.get? l=some (listOf its.toArray 0)) (hi:IntsAre its nums) (hz:nums.length<=LIM) (hn:n<=60)
  (pure:callN T (n+1) 0 f [.ref 0] [.frz its (nums.map .int)] (fun v H=>v=.bool true/\H[0]?=some (.frz its (nums.map .int))) fun _ _=>False) :
  wpP (model prog w) callerA (call (.ref (fa 0 f)) [.ref l]) (fun v s'=>v=.bool true/\(∀ b o,s.heap.get? b=some o->s'.heap.get? b=some o)/\s'.os=s.os/\s'.gens=#[]) (fun _ _=>False) s:=by
 have hKB:K.In (gone s.heap [l]):=fun a o e=>by
  rw [gone_get]
  ·exact hK a o e
  ·intro hm
   have h2:=List.all_eq_true.mp hnl _ (lookup_mem' e)
   have:=hK a o e
   rw [List.mem_singleton.mp hm,hlist] at this
   cases this
   exact absurd (show (Value.type "list" != Value.type "list")=true from h2) (by decide)
 have St:=stat_of (prog:=prog) (w:=w) hKB (ns_gone hg hlist) (ns_gone hb hlist) (hl.elim fun mc q=>⟨mc,ns_gone q.1 hlist,q.2⟩) hboot S
 have P:Pre ⟨⟨prog,w,gone s.heap [l],K,mg,mb⟩,callerA,topFx⟩ s [(l,l)] ⟨[],[.frz its (nums.map .int)]⟩:=by
  refine ⟨hgens,⟨fun b o e=>(gone_some e).2,fun p hp=>?_,fun a ha=>(nomatch ha),List.nodup_cons.mpr ⟨nofun,List.nodup_nil⟩,List.nodup_cons.mpr ⟨nofun,List.nodup_nil⟩,rfl,fun i p o e1 e2=>?_,fun a ha=>(nomatch ha)⟩,⟨rfl,⟨mg,hg,fun i x a e1=>(nomatch e1)⟩,fun i x e1=>(nomatch e1)⟩,trivial⟩
  ·rw [List.mem_singleton.mp hp];exact gone_none (.head _)
  ·cases i with
   | succ i=>cases e1
   | zero =>
    cases e1;cases e2
    exact ⟨rfl,by rw [List.length_map];exact hz,hlist,vrels_ints hi⟩
 have KX:FxEnter (gone s.heap [l]) topFx:=⟨.inr ((ns_gone hg hlist).elim fun o q=>q.elim fun es q=>q.elim fun ep q=>⟨o,q.1⟩),fun x c e=>(nomatch e),fun env he=>(nomatch he)⟩
 have hr:RoomD (n+1) callerA topFx:=by
  refine ⟨rfl,rfl,rfl,?_,?_⟩
  ·show 1 + claimMargin + 2 * (n+1) + 3 < 1000
   have:claimMargin<=800:=by decide
   omega
  ·show 4+10 * (n+1) + 295 < 9900
   omega
 cases hF:T.fn 0 f with
 | none =>
  have pure:optP (T.fn 0 f) _:=pure
  rw [hF] at pure
  exact pure.elim
 | some fd =>
  have pure:optP (T.fn 0 f) fun fd=>vCall T (callN T n) fd [.ref 0] [.frz its (nums.map .int)] (fun v H=>v=.bool true/\H[0]?=some (.frz its (nums.map .int))) fun _ _=>False:=pure
  rw [hF] at pure
  have pure:vCall T (callN T n) fd [.ref 0] [.frz its (nums.map .int)] (fun v H=>v=.bool true/\H[0]?=some (.frz its (nums.map .int))) fun _ _=>False:=pure
  obtain ⟨d,F,ok,okn⟩:=(St.fn 0 f fd hF).ok
  have sim:=sim_callF (Γ:=⟨⟨prog,w,gone s.heap [l],K,mg,mb⟩,callerA,topFx⟩) (C:=callN T n) hr St.lim P KX F (VRels.cons (VRel.mkRef (R:=[(l,l)]) (l:=0) (a:=l) (b:=l) rfl) VRels.nil) (fun A' X' s' R' st' hr' K' FX' P' e1 e2=>sound_ss fd.body _ s' R' st' ⟨St,sound_call St n,hr',K',e1▸okn⟩ FX' P' (by show okSs fd.line X'.names X'.env.scope.names fd.body=true;rw [e1,e2];exact ok))
  refine wpP_mono (sim.call (fun v st=>v=.bool true/\st.H[0]?=some (AObj.frz its (nums.map .int))) (fun _ _=>False) pure) ?_ fun _ _ x=>x.casesOn fun _ _ _ h _ _=>h
  rintro v s' ⟨a,st',R',hq,af,r⟩
  obtain ⟨rfl,e0⟩:=hq
  refine ⟨r.bool_v,fun b o g=>?_,by rw [af.eq],af.pre.gens⟩
  by_cases hq:b=l
  ·subst hq
   have q:FrzAt _ _ _ _ _:=af.pre.sat.at (af.step.get (l:=0) (p:=(b,b)) rfl) e0
   exact inj_some hlist g▸q.g
  ·exact af.pre.sat.keep b o ((gone_get fun z=>hq (List.mem_singleton.mp z)).trans g)
theorem pre_law {l:OpenLaw} (hm:l.most=some 63) (hb:l.bound=none) {args:List WData} (h:l.row.toRowW.claim.pre args=true):∃ xs,args=[.list xs]/\WShape.hasItems [] xs .int=true/\xs.length<=63:=by
 obtain ⟨h1,h2⟩:=pre_splitW h
 have h1:WShape.hasAll [] args [.list .int]=true:=h1
 obtain ⟨d,r,rfl,k1,k2⟩:=hasAllW_cons h1
 obtain ⟨xs,rfl,k3⟩:=hasW_list k1
 have hr:r=[]:=by cases r with
  | nil=>rfl
  | cons _ _=>exact nomatch (show false=true from k2)
 subst hr
 refine ⟨xs,rfl,k3,?_⟩
 have h2:WTm.holds [] l.pre { args:=[.list xs] }=true:=h2
 unfold OpenLaw.pre at h2
 rw [hm,hb] at h2
 simp [WTm.holds,WTm.value] at h2
 by_cases hx:xs.length<=63
 ·exact hx
 ·have:less? (WData.int 63) (WData.int xs.length)=some true:=by
   show some (decide ((63:Int) < (xs.length:Int)))=some true
   rw [decide_eq_true (by omega)]
  rw [this] at h2
  simp at h2
theorem well_list_inv {P:Params} {h:Heap} {v:Value} {xs:List WData} (x:Well P h v (.list xs)):∃ a vs,v=.ref a/\h.get? a=some (listOf vs.toArray 0)/\WellAll P h vs xs:=by
 cases x with
 | list hl hi=>exact ⟨_,_,rfl,hl,hi⟩
theorem law_good {l:OpenLaw} (hm:l.most=some 63) (hb:l.bound=none) {K:Params->Frag} {as0:List Addr} {e0:∀ P,as0=(K P).map (·.1)} {q:Program} {loose:List Str} {XP:(Str->Option Value)->Heap->Prop} {d:DefRec} {kwd:List (Str×Expr)}
  (hnl:∀ P,noLists (K P)=true) (S:∀ P,StatIn (K P)) (hd:d.name=Str.ofString (nm f)) (hf:(T.fn 0 f).isSome=true) (hn:n<=60)
  (pure:∀ (its:List Value) (nums:List Int),nums.length<=63->callN T (n+1) 0 f [.ref 0] [.frz its (nums.map .int)] (fun v H=>v=.bool true/\H[0]?=some (.frz its (nums.map .int))) fun _ _=>False) :
  WalkP q loose XP (kHook K as0 e0).says l.row.toRowW d kwd fun f vs=>PySem.call f vs:=by
 intro w s₀ s₁ mg mb G Y a o pm cd doc dV kV ho hdd hcd hD hmg hgens args vals as hpre hlay hrd hwl hlo
 have hK:(K w.params).In s₁.heap:=kIn_of Y
 obtain ⟨xs,rfl,k1,k2⟩:=pre_law hm hb hpre
 obtain ⟨v,vs',rfl,w1,w2⟩:=wellAll_cons_inv hwl
 cases w2
 obtain ⟨la,its,rfl,hl,hi⟩:=well_list_inv w1
 obtain ⟨nums,e1,hI⟩:=ints_of_has k1 hi
 have hz:nums.length<=63:=e1▸k2
 obtain ⟨fd,hfd⟩:=Option.isSome_iff_exists.mp hf
 have T':=G.T
 have hlaw:a=fa 0 f:=by
  have:=(stat_of (prog:=l.row.toRowW.prog) (w:=w) hK T'.g T'.b T'.nolimit T'.builtins (S w.params)).fnG f fd hfd
  have e:=hmg
  rw [hd] at e
  have:=this.symm.trans e
  cases this;rfl
 subst hlaw
 have run:=law_run (prog:=l.row.toRowW.prog) (w:=w) hK (hnl _) T'.g T'.b T'.nolimit T'.builtins (S w.params) hgens hl hI (Nat.le_trans hz (by decide)) hn (pure its nums hz)
 refine wpP_mono run ?_ fun _ _ x=>x.elim
 rintro v s' ⟨rfl,h1,h2,h3⟩
 refine ⟨.inl ⟨_,.bool true,[],rfl,fun _=>rfl,.bool true,?_,fun _=>⟨List.nodup_nil,fun _ h=>nomatch h⟩⟩,.of_keep h1,h2,.of_eq h3⟩
 show (WShape.has [] (.bool true) .bool&&WTm.holds [] (.eq .res (.lit (.bool true))) _)=true
 rw [show WShape.has [] (.bool true) .bool=true from rfl,Bool.true_and]
 simp [WTm.holds,WTm.value,same_self]
end
end Ab
end
section
namespace Ab
open PySem PySem.W PyProof.Rows
noncomputable abbrev prg:Program:=(OpenRow.toRowW (OpenLaw.row PySem.Challenge.rw_xm0850_02)).1
noncomputable def so (s:String):Str:=Str.ofString s
noncomputable def ys (s:String) (t:Tok):Value:=.str (Str.ofString s) t
noncomputable def yr (a:Addr):Value:=.ref a
noncomputable def yi (i:Int) (t:Tok):Value:=.int i t
noncomputable def yb (b:Bool):Value:=.bool b
noncomputable def yB (s:String):Value:=.builtin s
noncomputable def yT (s:String):Value:=.type s
noncomputable def yn:Value:=.none
noncomputable def tp (l:List Value):Obj:={ cls:=.type "tuple",data:=.seq l.toArray }
noncomputable def co (l:List Value):Obj:={ cls:=.type "code",data:=.fields l.toArray }
noncomputable def nf (l:List Value):Obj:={ cls:=.none,data:=.fields l.toArray }
noncomputable def fo (s:String) (l:List Value):Obj:={ cls:=.type s,data:=.fields l.toArray }
noncomputable def fm (l:List (Option Value)):Obj:={ cls:=.type "frame",slots:=l.toArray }
noncomputable def de (P:Params) (k:String) (t:Tok) (v:Value):DictEntry:={ hash:=PyData.keyHash P (Str.ofString k),key:=.str (Str.ofString k) t,val:=v }
noncomputable def dn (l:List DictEntry) (n:Nat):Obj:={ cls:=.none,data:=.dict l.toArray n }
noncomputable def dc (l:List DictEntry) (n:Nat):Obj:={ cls:=.type "dict",data:=.dict l.toArray n }
noncomputable def flat1 (pre:Str) (l:List Stmt):List (Str×Stmt):=l.filterMap fun s=>match s with
 | .FunctionDef n ..=>some (pre++n,s)
 | _=>none
noncomputable def fnD:List (Str×Stmt):=prg.main.body.flatMap fun s=>match s with
 | .FunctionDef n ..=>[(n,s)]
 | .ClassDef n _ _ b ..=>flat1 (n++".") b
 | _=>[]
noncomputable def fuO (q:Str×Stmt) (g:Addr) (d m c k:Value):Obj:=match q.2 with
 | .FunctionDef n a b _ _ _ sc _ _ _=>{ cls:=k,data:=.func { name:=n,qualname:=q.1,params:=a,body:=.stmts b,scope:=sc,globals:=g,closure:=[],defaults:=d,kwdefaults:=.none,pyModule:=m,code:=c } }
 | _=>default
noncomputable def fu (i:Nat) (d m c:Value):Obj:=fuO (fnD.getD i default) mainGlobals d m c (.type "function")
noncomputable def ft (i:Nat) (d:Value):Obj:=fuO (fnD.getD i default) 0 d .none .none .none
noncomputable def dic (P:Params):List DictEntry:=[de P "__name__" 165 (ys "law_xm0850_02" 838),de P "__doc__" 166 yn,de P "__package__" 167 yn,de P "__loader__" 168 (yB "__main__.__loader__#opaque"),de P "__spec__" 169 yn,de P "__annotations__" 170 (yr 6),de P "__builtins__" 171 (yr 4),de P "__file__" 173 (ys "/claim/cut.py" 172),de P "__cached__" 174 yn,de P "_wall" 193 (yr 21),de P "KeepError" 215 (yr 31),de P "StoreError" 231 (yr 44),de P "Corrupt" 247 (yr 56),de P "ShortOctets" 263 (yr 68),de P "BadOption" 279 (yr 80),de P "MAX_32" 283 (yi 4294967295 282),de P "MAX_64" 285 (yi 18446744073709551615 284),de P "CHECK_CRC" 287 (yi 1 286),de P "CHECK_SUM" 289 (yi 2 288),de P "CRC_POLY" 291 (yi 2197175160 290),de P "MASK_DELTA" 293 (yi 2726488792 292),de P "write_groups" 302 (yr 89),de P "read_groups" 316 (yr 96),de P "put_varint" 323 (yr 103),de P "read_varint" 331 (yr 110),de P "put_varint32" 338 (yr 117),de P "read_varint32" 346 (yr 124),de P "put_fixed32" 353 (yr 131),de P "read_fixed32" 361 (yr 138),de P "read_lengthed" 370 (yr 145),de P "make_crc_table" 380 (yr 152),de P "crc32c" 392 (yr 160),de P "mask" 399 (yr 167),de P "checksum" 407 (yr 174),de P "Cursor" 510 (yr 255),de P "Sink" 601 (yr 332),de P "MAX_SEQ" 603 (yi 72057594037927935 602),de P "MOST_LEVELS" 605 (yi 12 604),de P "RunInfo" 659 (yr 367),de P "Manifesto" 714 (yr 402),de P "decode_manifesto" 733 (yr 413),de P "lay" 744 (yr 420),de P "Inbox" 837 (yr 477),de P "_law_draw" 847 (yr 488),de P "_law_field" 854 (yr 495),de P "_law_number" 861 (yr 502),de P "_law_text" 868 (yr 509),de P "_law_octets" 881 (yr 516),de P "_law_made" 887 (yr 521),de P "_law_read" 894 (yr 528),de P "_law_why" 901 (yr 535),de P "_law_runs" 908 (yr 542),de P "_law_hole" 916 (yr 549),de P "_law_give" 930 (yr 556),de P "_law_order" 936 (yr 561),de P "_law_whole" 946 (yr 568),de P "law" 952 (yr 573)]
noncomputable def tbl:List Value:=[yi 1 0,yi 0 0,yr 20,yi 5 0,yi 0 0,yr 27,yi 7 0,yi 0 0,yr 40,yi 9 0,yi 0 0,yr 52,yi 11 0,yi 0 0,yr 64,yi 13 0,yi 0 0,yr 76,yi 22 0,yi 0 0,yr 88,yi 31 0,yi 0 0,yr 95,yi 48 0,yi 0 0,yr 102,yi 52 0,yi 0 0,yr 109,yi 56 0,yi 0 0,yr 116,yi 60 0,yi 0 0,yr 123,yi 64 0,yi 0 0,yr 130,yi 68 0,yi 0 0,yr 137,yi 72 0,yi 0 0,yr 144,yi 77 0,yi 0 0,yr 151,yi 90 0,yi 0 0,yr 159,yi 98 0,yi 0 0,yr 166,yi 100 0,yi 0 0,yr 173,yi 106 0,yi 0 0,yr 180,yi 159 0,yi 0 0,yr 265,yi 196 0,yi 0 0,yr 342,yi 210 0,yi 0 0,yr 377,yi 239 0,yi 0 0,yr 412,yi 260 0,yi 0 0,yr 419,yi 267 0,yi 0 0,yr 426,yi 342 0,yi 0 0,yr 487,yi 344 0,yi 0 0,yr 494,yi 348 0,yi 0 0,yr 501,yi 352 0,yi 0 0,yr 508,yi 354 0,yi 0 0,yr 515,yi 364 0,yi 0 0,yr 520,yi 367 0,yi 0 0,yr 527,yi 372 0,yi 0 0,yr 534,yi 380 0,yi 0 0,yr 541,yi 387 0,yi 0 0,yr 548,yi 392 0,yi 0 0,yr 555,yi 400 0,yi 0 0,yr 560,yi 408 0,yi 0 0,yr 567,yi 417 0,yi 0 0,yr 572]
noncomputable def ob (P:Params):List Obj:=[boot_o_0 P,
 boot_o_1 P,
 dn [de P "type.__subclasses__.Exception.0" 212 (yi 31 0),de P "type.__subclasses__.Exception.n" 213 (yi 1 0)] 2,
 dc (dic P) 57,
 boot_o_4 P,
 boot_o_5 P,
 boot_o_6 P,
 boot_o_7 P,
 boot_o_8 P,
 boot_o_9 P,
 boot_o_10 P,
 tp [],
 nf tbl,
 co [ys "<module>" 182,ys "<module>" 183,ys "/claim/cut.py" 184,yi 1 0,yi 0 0,yi 0 0,yi 0 0,yi 0 0,yr 11,yb false,yi 181 0,yr 12,yn,yn,yn,yn,yi 185 0,yi 1 0,ys "/claim/cut.py" 186],
 fm [some (yr 13),some (yr 3),some (yr 3),none,some (ys "__main__" 164),none,some (yr 0)],
 tp [],
 nf [],
 tp [ys "k" 190],
 tp [],
 ft 0 (yn),
 co [ys "_wall" 187,ys "_wall" 188,ys "/claim/cut.py" 189,yi 1 0,yi 1 0,yi 0 0,yi 0 0,yi 3 0,yr 15,yb true,yi 181 0,yr 16,yn,yr 17,yr 18,yr 19,yi 191 0,yi 1 0,ys "/claim/cut.py" 192],
 fu 0 (yn) (ys "__main__" 164) (yr 20),
 tp [yT "Exception"],
 fo "builtin_function_or_method" [yB "type.__prepare__",yT "type"],
 dc [de P "__module__" 203 (ys "raftkeep.errors" 194),de P "__qualname__" 205 (ys "KeepError" 204),de P "__firstlineno__" 207 (yi 5 206),de P "__static_attributes__" 208 (yr 29)] 4,
 tp [],
 nf [],
 co [ys "KeepError" 198,ys "KeepError" 199,ys "/claim/cut.py" 200,yi 5 0,yi 0 0,yi 0 0,yi 0 0,yi 0 0,yr 25,yb false,yi 181 0,yr 26,yn,yn,yn,yn,yi 201 0,yi 5 0,ys "/claim/cut.py" 202],
 fm [some (yr 27),some (yr 3),some (yr 24),none,some (ys "raftkeep.errors" 194),none,some (yr 0)],
 tp [],
 dc [de P "__module__" 203 (ys "raftkeep.errors" 194),de P "__firstlineno__" 207 (yi 5 206),de P "__static_attributes__" 208 (yr 29),de P "__weakref__" 210 (yr 32),de P "__doc__" 211 yn] 3,
 { cls:=yT "type",data:=Data.cls { name:=so "KeepError",bases:=[yT "Exception"],mro:=[yr 31,yT "Exception",yT "BaseException",yT "object"],ns:=30,qualname:=so "KeepError",subclasses:=[yr 44] },slots:=#[some (yr 22),none,some (ys "KeepError" 196),some (ys "KeepError" 204),some (yB "Exception.__new__"),some (yb true)] },
 fo "getset_descriptor" [ys "__weakref__" 209,yr 31,yB "ExceptionGroup.__weakref__",yn],
 fo "super" [yr 31,yr 31,yr 31],
 fo "builtin_function_or_method" [yB "object.__init_subclass__",yr 31],
 tp [yr 31],
 fo "builtin_function_or_method" [yB "type.__prepare__",yT "type"],
 dc [de P "__module__" 223 (ys "raftkeep.errors" 194),de P "__qualname__" 225 (ys "StoreError" 224),de P "__firstlineno__" 227 (yi 7 226),de P "__static_attributes__" 228 (yr 42)] 4,
 tp [],
 nf [],
 co [ys "StoreError" 218,ys "StoreError" 219,ys "/claim/cut.py" 220,yi 7 0,yi 0 0,yi 0 0,yi 0 0,yi 0 0,yr 38,yb false,yi 181 0,yr 39,yn,yn,yn,yn,yi 221 0,yi 7 0,ys "/claim/cut.py" 222],
 fm [some (yr 40),some (yr 3),some (yr 37),none,some (ys "raftkeep.errors" 194),none,some (yr 0)],
 tp [],
 dc [de P "__module__" 223 (ys "raftkeep.errors" 194),de P "__firstlineno__" 227 (yi 7 226),de P "__static_attributes__" 228 (yr 42),de P "__doc__" 229 yn] 2,
 { cls:=yT "type",data:=Data.cls { name:=so "StoreError",bases:=[yr 31],mro:=[yr 44,yr 31,yT "Exception",yT "BaseException",yT "object"],ns:=43,qualname:=so "StoreError",subclasses:=[yr 56,yr 80] },slots:=#[some (yr 35),none,some (ys "StoreError" 216),some (ys "StoreError" 224),some (yB "Exception.__new__"),some (yb true)] },
 fo "super" [yr 44,yr 44,yr 44],
 fo "builtin_function_or_method" [yB "object.__init_subclass__",yr 44],
 tp [yr 44],
 fo "builtin_function_or_method" [yB "type.__prepare__",yT "type"],
 dc [de P "__module__" 239 (ys "raftkeep.errors" 194),de P "__qualname__" 241 (ys "Corrupt" 240),de P "__firstlineno__" 243 (yi 9 242),de P "__static_attributes__" 244 (yr 54)] 4,
 tp [],
 nf [],
 co [ys "Corrupt" 234,ys "Corrupt" 235,ys "/claim/cut.py" 236,yi 9 0,yi 0 0,yi 0 0,yi 0 0,yi 0 0,yr 50,yb false,yi 181 0,yr 51,yn,yn,yn,yn,yi 237 0,yi 9 0,ys "/claim/cut.py" 238],
 fm [some (yr 52),some (yr 3),some (yr 49),none,some (ys "raftkeep.errors" 194),none,some (yr 0)],
 tp [],
 dc [de P "__module__" 239 (ys "raftkeep.errors" 194),de P "__firstlineno__" 243 (yi 9 242),de P "__static_attributes__" 244 (yr 54),de P "__doc__" 245 yn] 2,
 { cls:=yT "type",data:=Data.cls { name:=so "Corrupt",bases:=[yr 44],mro:=[yr 56,yr 44,yr 31,yT "Exception",yT "BaseException",yT "object"],ns:=55,qualname:=so "Corrupt",subclasses:=[yr 68] },slots:=#[some (yr 47),none,some (ys "Corrupt" 232),some (ys "Corrupt" 240),some (yB "Exception.__new__"),some (yb true)] },
 fo "super" [yr 56,yr 56,yr 56],
 fo "builtin_function_or_method" [yB "object.__init_subclass__",yr 56],
 tp [yr 56],
 fo "builtin_function_or_method" [yB "type.__prepare__",yT "type"],
 dc [de P "__module__" 255 (ys "raftkeep.errors" 194),de P "__qualname__" 257 (ys "ShortOctets" 256),de P "__firstlineno__" 259 (yi 11 258),de P "__static_attributes__" 260 (yr 66)] 4,
 tp [],
 nf [],
 co [ys "ShortOctets" 250,ys "ShortOctets" 251,ys "/claim/cut.py" 252,yi 11 0,yi 0 0,yi 0 0,yi 0 0,yi 0 0,yr 62,yb false,yi 181 0,yr 63,yn,yn,yn,yn,yi 253 0,yi 11 0,ys "/claim/cut.py" 254],
 fm [some (yr 64),some (yr 3),some (yr 61),none,some (ys "raftkeep.errors" 194),none,some (yr 0)],
 tp [],
 dc [de P "__module__" 255 (ys "raftkeep.errors" 194),de P "__firstlineno__" 259 (yi 11 258),de P "__static_attributes__" 260 (yr 66),de P "__doc__" 261 yn] 2,
 { cls:=yT "type",data:=Data.cls { name:=so "ShortOctets",bases:=[yr 56],mro:=[yr 68,yr 56,yr 44,yr 31,yT "Exception",yT "BaseException",yT "object"],ns:=67,qualname:=so "ShortOctets" },slots:=#[some (yr 59),none,some (ys "ShortOctets" 248),some (ys "ShortOctets" 256),some (yB "Exception.__new__"),some (yb true)] },
 fo "super" [yr 68,yr 68,yr 68],
 fo "builtin_function_or_method" [yB "object.__init_subclass__",yr 68],
 tp [yr 44],
 fo "builtin_function_or_method" [yB "type.__prepare__",yT "type"],
 dc [de P "__module__" 271 (ys "raftkeep.errors" 194),de P "__qualname__" 273 (ys "BadOption" 272),de P "__firstlineno__" 275 (yi 13 274),de P "__static_attributes__" 276 (yr 78)] 4,
 tp [],
 nf [],
 co [ys "BadOption" 266,ys "BadOption" 267,ys "/claim/cut.py" 268,yi 13 0,yi 0 0,yi 0 0,yi 0 0,yi 0 0,yr 74,yb false,yi 181 0,yr 75,yn,yn,yn,yn,yi 269 0,yi 13 0,ys "/claim/cut.py" 270],
 fm [some (yr 76),some (yr 3),some (yr 73),none,some (ys "raftkeep.errors" 194),none,some (yr 0)],
 tp [],
 dc [de P "__module__" 271 (ys "raftkeep.errors" 194),de P "__firstlineno__" 275 (yi 13 274),de P "__static_attributes__" 276 (yr 78),de P "__doc__" 277 yn] 2,
 { cls:=yT "type",data:=Data.cls { name:=so "BadOption",bases:=[yr 44],mro:=[yr 80,yr 44,yr 31,yT "Exception",yT "BaseException",yT "object"],ns:=79,qualname:=so "BadOption" },slots:=#[some (yr 71),none,some (ys "BadOption" 264),some (ys "BadOption" 272),some (yB "Exception.__new__"),some (yb true)] },
 fo "super" [yr 80,yr 80,yr 80],
 fo "builtin_function_or_method" [yB "object.__init_subclass__",yr 80],
 tp [],
 nf [],
 tp [ys "n" 297,ys "most" 298,ys "out" 299],
 tp [],
 ft 1 (yn),
 co [ys "write_groups" 294,ys "write_groups" 295,ys "/claim/cut.py" 296,yi 22 0,yi 2 0,yi 0 0,yi 0 0,yi 3 0,yr 83,yb true,yi 181 0,yr 84,yn,yr 85,yr 86,yr 87,yi 300 0,yi 22 0,ys "/claim/cut.py" 301],
 fu 1 (yn) (ys "raftkeep.octets" 280) (yr 88),
 tp [],
 nf [],
 tp [ys "data" 306,ys "at" 307,ys "octets" 308,ys "most" 309,ys "n" 310,ys "shift" 311,ys "turn" 312,ys "octet" 313],
 tp [],
 ft 2 (yn),
 co [ys "read_groups" 303,ys "read_groups" 304,ys "/claim/cut.py" 305,yi 31 0,yi 4 0,yi 0 0,yi 0 0,yi 3 0,yr 90,yb true,yi 181 0,yr 91,yn,yr 92,yr 93,yr 94,yi 314 0,yi 31 0,ys "/claim/cut.py" 315],
 fu 2 (yn) (ys "raftkeep.octets" 280) (yr 95),
 tp [],
 nf [],
 tp [ys "n" 320],
 tp [],
 ft 3 (yn),
 co [ys "put_varint" 317,ys "put_varint" 318,ys "/claim/cut.py" 319,yi 48 0,yi 1 0,yi 0 0,yi 0 0,yi 3 0,yr 97,yb true,yi 181 0,yr 98,yn,yr 99,yr 100,yr 101,yi 321 0,yi 48 0,ys "/claim/cut.py" 322],
 fu 3 (yn) (ys "raftkeep.octets" 280) (yr 102),
 tp [],
 nf [],
 tp [ys "data" 327,ys "at" 328],
 tp [],
 ft 4 (yn),
 co [ys "read_varint" 324,ys "read_varint" 325,ys "/claim/cut.py" 326,yi 52 0,yi 2 0,yi 0 0,yi 0 0,yi 3 0,yr 104,yb true,yi 181 0,yr 105,yn,yr 106,yr 107,yr 108,yi 329 0,yi 52 0,ys "/claim/cut.py" 330],
 fu 4 (yn) (ys "raftkeep.octets" 280) (yr 109),
 tp [],
 nf [],
 tp [ys "n" 335],
 tp [],
 ft 5 (yn),
 co [ys "put_varint32" 332,ys "put_varint32" 333,ys "/claim/cut.py" 334,yi 56 0,yi 1 0,yi 0 0,yi 0 0,yi 3 0,yr 111,yb true,yi 181 0,yr 112,yn,yr 113,yr 114,yr 115,yi 336 0,yi 56 0,ys "/claim/cut.py" 337],
 fu 5 (yn) (ys "raftkeep.octets" 280) (yr 116),
 tp [],
 nf [],
 tp [ys "data" 342,ys "at" 343],
 tp [],
 ft 6 (yn),
 co [ys "read_varint32" 339,ys "read_varint32" 340,ys "/claim/cut.py" 341,yi 60 0,yi 2 0,yi 0 0,yi 0 0,yi 3 0,yr 118,yb true,yi 181 0,yr 119,yn,yr 120,yr 121,yr 122,yi 344 0,yi 60 0,ys "/claim/cut.py" 345],
 fu 6 (yn) (ys "raftkeep.octets" 280) (yr 123),
 tp [],
 nf [],
 tp [ys "n" 350],
 tp [],
 ft 7 (yn),
 co [ys "put_fixed32" 347,ys "put_fixed32" 348,ys "/claim/cut.py" 349,yi 64 0,yi 1 0,yi 0 0,yi 0 0,yi 3 0,yr 125,yb true,yi 181 0,yr 126,yn,yr 127,yr 128,yr 129,yi 351 0,yi 64 0,ys "/claim/cut.py" 352],
 fu 7 (yn) (ys "raftkeep.octets" 280) (yr 130),
 tp [],
 nf [],
 tp [ys "data" 357,ys "at" 358],
 tp [],
 ft 8 (yn),
 co [ys "read_fixed32" 354,ys "read_fixed32" 355,ys "/claim/cut.py" 356,yi 68 0,yi 2 0,yi 0 0,yi 0 0,yi 3 0,yr 132,yb true,yi 181 0,yr 133,yn,yr 134,yr 135,yr 136,yi 359 0,yi 68 0,ys "/claim/cut.py" 360],
 fu 8 (yn) (ys "raftkeep.octets" 280) (yr 137),
 tp [],
 nf [],
 tp [ys "data" 365,ys "at" 366,ys "count" 367],
 tp [],
 ft 9 (yn),
 co [ys "read_lengthed" 362,ys "read_lengthed" 363,ys "/claim/cut.py" 364,yi 72 0,yi 2 0,yi 0 0,yi 0 0,yi 3 0,yr 139,yb true,yi 181 0,yr 140,yn,yr 141,yr 142,yr 143,yi 368 0,yi 72 0,ys "/claim/cut.py" 369],
 fu 9 (yn) (ys "raftkeep.octets" 280) (yr 144),
 tp [],
 nf [],
 tp [ys "table" 374,ys "c" 375,ys "half" 376,ys "low" 377],
 tp [],
 ft 10 (yn),
 co [ys "make_crc_table" 371,ys "make_crc_table" 372,ys "/claim/cut.py" 373,yi 77 0,yi 0 0,yi 0 0,yi 0 0,yi 3 0,yr 146,yb true,yi 181 0,yr 147,yn,yr 148,yr 149,yr 150,yi 378 0,yi 77 0,ys "/claim/cut.py" 379],
 fu 10 (yn) (ys "raftkeep.octets" 280) (yr 151),
 tp [yi 0 381],
 tp [],
 nf [],
 tp [ys "data" 385,ys "start" 386,ys "table" 387,ys "c" 388,ys "octet" 389],
 tp [],
 ft 11 (yn),
 co [ys "crc32c" 382,ys "crc32c" 383,ys "/claim/cut.py" 384,yi 90 0,yi 2 0,yi 0 0,yi 0 0,yi 3 0,yr 154,yb true,yi 181 0,yr 155,yn,yr 156,yr 157,yr 158,yi 390 0,yi 90 0,ys "/claim/cut.py" 391],
 fu 11 (yr 153) (ys "raftkeep.octets" 280) (yr 159),
 tp [],
 nf [],
 tp [ys "c" 396],
 tp [],
 ft 12 (yn),
 co [ys "mask" 393,ys "mask" 394,ys "/claim/cut.py" 395,yi 98 0,yi 1 0,yi 0 0,yi 0 0,yi 3 0,yr 161,yb true,yi 181 0,yr 162,yn,yr 163,yr 164,yr 165,yi 397 0,yi 98 0,ys "/claim/cut.py" 398],
 fu 12 (yn) (ys "raftkeep.octets" 280) (yr 166),
 tp [],
 nf [],
 tp [ys "kind" 403,ys "data" 404],
 tp [],
 ft 13 (yn),
 co [ys "checksum" 400,ys "checksum" 401,ys "/claim/cut.py" 402,yi 100 0,yi 2 0,yi 0 0,yi 0 0,yi 3 0,yr 168,yb true,yi 181 0,yr 169,yn,yr 170,yr 171,yr 172,yi 405 0,yi 100 0,ys "/claim/cut.py" 406],
 fu 13 (yn) (ys "raftkeep.octets" 280) (yr 173),
 tp [],
 fo "builtin_function_or_method" [yB "type.__prepare__",yT "type"],
 dc [de P "__module__" 415 (ys "raftkeep.octets" 280),de P "__qualname__" 417 (ys "Cursor" 416),de P "__firstlineno__" 419 (yi 106 418),de P "__init__" 429 (yr 189),de P "left" 436 (yr 196),de P "varint" 445 (yr 203),de P "fixed32" 453 (yr 210),de P "fixed64" 460 (yr 217),de P "lengthed" 469 (yr 224),de P "octet" 477 (yr 231),de P "flag" 484 (yr 238),de P "take" 493 (yr 245),de P "done" 500 (yr 252),de P "__static_attributes__" 503 (yr 253)] 14,
 tp [],
 nf [yi 108 0,yi 4 0,yr 188,yi 114 0,yi 4 0,yr 195,yi 117 0,yi 4 0,yr 202,yi 126 0,yi 4 0,yr 209,yi 131 0,yi 4 0,yr 216,yi 134 0,yi 4 0,yr 223,yi 139 0,yi 4 0,yr 230,yi 146 0,yi 4 0,yr 237,yi 149 0,yi 4 0,yr 244,yi 156 0,yi 4 0,yr 251],
 co [ys "Cursor" 410,ys "Cursor" 411,ys "/claim/cut.py" 412,yi 106 0,yi 0 0,yi 0 0,yi 0 0,yi 0 0,yr 178,yb false,yi 181 0,yr 179,yn,yn,yn,yn,yi 413 0,yi 106 0,ys "/claim/cut.py" 414],
 fm [some (yr 180),some (yr 3),some (yr 177),none,some (ys "raftkeep.octets" 280),none,some (yr 0)],
 tp [yi 0 420],
 tp [],
 nf [],
 tp [ys "self" 424,ys "data" 425,ys "at" 426],
 tp [],
 ft 14 (yn),
 co [ys "__init__" 421,ys "Cursor.__init__" 422,ys "/claim/cut.py" 423,yi 108 0,yi 3 0,yi 0 0,yi 0 0,yi 3 0,yr 183,yb true,yi 181 0,yr 184,yn,yr 185,yr 186,yr 187,yi 427 0,yi 108 0,ys "/claim/cut.py" 428],
 fu 14 (yr 182) (ys "raftkeep.octets" 280) (yr 188),
 tp [],
 nf [],
 tp [ys "self" 433],
 tp [],
 ft 15 (yn),
 co [ys "left" 430,ys "Cursor.left" 431,ys "/claim/cut.py" 432,yi 114 0,yi 1 0,yi 0 0,yi 0 0,yi 3 0,yr 190,yb true,yi 181 0,yr 191,yn,yr 192,yr 193,yr 194,yi 434 0,yi 114 0,ys "/claim/cut.py" 435],
 fu 15 (yn) (ys "raftkeep.octets" 280) (yr 195),
 tp [],
 nf [],
 tp [ys "self" 440,ys "at" 441,ys "n" 442],
 tp [],
 ft 16 (yn),
 co [ys "varint" 437,ys "Cursor.varint" 438,ys "/claim/cut.py" 439,yi 117 0,yi 1 0,yi 0 0,yi 0 0,yi 3 0,yr 197,yb true,yi 181 0,yr 198,yn,yr 199,yr 200,yr 201,yi 443 0,yi 117 0,ys "/claim/cut.py" 444],
 fu 16 (yn) (ys "raftkeep.octets" 280) (yr 202),
 tp [],
 nf [],
 tp [ys "self" 449,ys "n" 450],
 tp [],
 ft 17 (yn),
 co [ys "fixed32" 446,ys "Cursor.fixed32" 447,ys "/claim/cut.py" 448,yi 126 0,yi 1 0,yi 0 0,yi 0 0,yi 3 0,yr 204,yb true,yi 181 0,yr 205,yn,yr 206,yr 207,yr 208,yi 451 0,yi 126 0,ys "/claim/cut.py" 452],
 fu 17 (yn) (ys "raftkeep.octets" 280) (yr 209),
 tp [],
 nf [],
 tp [ys "self" 457],
 tp [],
 ft 18 (yn),
 co [ys "fixed64" 454,ys "Cursor.fixed64" 455,ys "/claim/cut.py" 456,yi 131 0,yi 1 0,yi 0 0,yi 0 0,yi 3 0,yr 211,yb true,yi 181 0,yr 212,yn,yr 213,yr 214,yr 215,yi 458 0,yi 131 0,ys "/claim/cut.py" 459],
 fu 18 (yn) (ys "raftkeep.octets" 280) (yr 216),
 tp [],
 nf [],
 tp [ys "self" 464,ys "b" 465,ys "at" 466],
 tp [],
 ft 19 (yn),
 co [ys "lengthed" 461,ys "Cursor.lengthed" 462,ys "/claim/cut.py" 463,yi 134 0,yi 1 0,yi 0 0,yi 0 0,yi 3 0,yr 218,yb true,yi 181 0,yr 219,yn,yr 220,yr 221,yr 222,yi 467 0,yi 134 0,ys "/claim/cut.py" 468],
 fu 19 (yn) (ys "raftkeep.octets" 280) (yr 223),
 tp [],
 nf [],
 tp [ys "self" 473,ys "n" 474],
 tp [],
 ft 20 (yn),
 co [ys "octet" 470,ys "Cursor.octet" 471,ys "/claim/cut.py" 472,yi 139 0,yi 1 0,yi 0 0,yi 0 0,yi 3 0,yr 225,yb true,yi 181 0,yr 226,yn,yr 227,yr 228,yr 229,yi 475 0,yi 139 0,ys "/claim/cut.py" 476],
 fu 20 (yn) (ys "raftkeep.octets" 280) (yr 230),
 tp [],
 nf [],
 tp [ys "self" 481],
 tp [],
 ft 21 (yn),
 co [ys "flag" 478,ys "Cursor.flag" 479,ys "/claim/cut.py" 480,yi 146 0,yi 1 0,yi 0 0,yi 0 0,yi 3 0,yr 232,yb true,yi 181 0,yr 233,yn,yr 234,yr 235,yr 236,yi 482 0,yi 146 0,ys "/claim/cut.py" 483],
 fu 21 (yn) (ys "raftkeep.octets" 280) (yr 237),
 tp [],
 nf [],
 tp [ys "self" 488,ys "n" 489,ys "b" 490],
 tp [],
 ft 22 (yn),
 co [ys "take" 485,ys "Cursor.take" 486,ys "/claim/cut.py" 487,yi 149 0,yi 2 0,yi 0 0,yi 0 0,yi 3 0,yr 239,yb true,yi 181 0,yr 240,yn,yr 241,yr 242,yr 243,yi 491 0,yi 149 0,ys "/claim/cut.py" 492],
 fu 22 (yn) (ys "raftkeep.octets" 280) (yr 244),
 tp [],
 nf [],
 tp [ys "self" 497],
 tp [],
 ft 23 (yn),
 co [ys "done" 494,ys "Cursor.done" 495,ys "/claim/cut.py" 496,yi 156 0,yi 1 0,yi 0 0,yi 0 0,yi 3 0,yr 246,yb true,yi 181 0,yr 247,yn,yr 248,yr 249,yr 250,yi 498 0,yi 156 0,ys "/claim/cut.py" 499],
 fu 23 (yn) (ys "raftkeep.octets" 280) (yr 251),
 tp [ys "at" 501,ys "data" 502],
 dc [de P "__module__" 415 (ys "raftkeep.octets" 280),de P "__firstlineno__" 419 (yi 106 418),de P "__init__" 429 (yr 189),de P "left" 436 (yr 196),de P "varint" 445 (yr 203),de P "fixed32" 453 (yr 210),de P "fixed64" 460 (yr 217),de P "lengthed" 469 (yr 224),de P "octet" 477 (yr 231),de P "flag" 484 (yr 238),de P "take" 493 (yr 245),de P "done" 500 (yr 252),de P "__static_attributes__" 503 (yr 253),de P "__dict__" 505 (yr 256),de P "__weakref__" 507 (yr 257),de P "__doc__" 508 yn] 4,
 { cls:=yT "type",data:=Data.cls { name:=so "Cursor",bases:=[yT "object"],mro:=[yr 255,yT "object"],ns:=254,qualname:=so "Cursor" },slots:=#[none,none,some (ys "Cursor" 408),some (ys "Cursor" 416),some (yB "object.__new__"),some (yb true)] },
 fo "getset_descriptor" [ys "__dict__" 504,yr 255,yB "function.__dict__",yB "function.__dict__#set"],
 fo "getset_descriptor" [ys "__weakref__" 506,yr 255,yB "ExceptionGroup.__weakref__",yn],
 fo "super" [yr 255,yr 255,yr 255],
 fo "builtin_function_or_method" [yB "object.__init_subclass__",yr 255],
 tp [],
 fo "builtin_function_or_method" [yB "type.__prepare__",yT "type"],
 dc [de P "__module__" 518 (ys "raftkeep.octets" 280),de P "__qualname__" 520 (ys "Sink" 519),de P "__firstlineno__" 522 (yi 159 521),de P "__init__" 529 (yr 273),de P "varint" 537 (yr 280),de P "fixed32" 545 (yr 287),de P "fixed64" 553 (yr 294),de P "lengthed" 561 (yr 301),de P "octet" 569 (yr 308),de P "flag" 577 (yr 315),de P "raw" 585 (yr 322),de P "done" 592 (yr 329),de P "__static_attributes__" 594 (yr 330)] 13,
 tp [],
 nf [yi 161 0,yi 4 0,yr 272,yi 164 0,yi 4 0,yr 279,yi 170 0,yi 4 0,yr 286,yi 173 0,yi 4 0,yr 293,yi 176 0,yi 4 0,yr 300,yi 180 0,yi 4 0,yr 307,yi 185 0,yi 4 0,yr 314,yi 188 0,yi 4 0,yr 321,yi 191 0,yi 4 0,yr 328],
 co [ys "Sink" 513,ys "Sink" 514,ys "/claim/cut.py" 515,yi 159 0,yi 0 0,yi 0 0,yi 0 0,yi 0 0,yr 263,yb false,yi 181 0,yr 264,yn,yn,yn,yn,yi 516 0,yi 159 0,ys "/claim/cut.py" 517],
 fm [some (yr 265),some (yr 3),some (yr 262),none,some (ys "raftkeep.octets" 280),none,some (yr 0)],
 tp [],
 nf [],
 tp [ys "self" 526],
 tp [],
 ft 24 (yn),
 co [ys "__init__" 523,ys "Sink.__init__" 524,ys "/claim/cut.py" 525,yi 161 0,yi 1 0,yi 0 0,yi 0 0,yi 3 0,yr 267,yb true,yi 181 0,yr 268,yn,yr 269,yr 270,yr 271,yi 527 0,yi 161 0,ys "/claim/cut.py" 528],
 fu 24 (yn) (ys "raftkeep.octets" 280) (yr 272),
 tp [],
 nf [],
 tp [ys "self" 533,ys "n" 534],
 tp [],
 ft 25 (yn),
 co [ys "varint" 530,ys "Sink.varint" 531,ys "/claim/cut.py" 532,yi 164 0,yi 2 0,yi 0 0,yi 0 0,yi 3 0,yr 274,yb true,yi 181 0,yr 275,yn,yr 276,yr 277,yr 278,yi 535 0,yi 164 0,ys "/claim/cut.py" 536],
 fu 25 (yn) (ys "raftkeep.octets" 280) (yr 279),
 tp [],
 nf [],
 tp [ys "self" 541,ys "n" 542],
 tp [],
 ft 26 (yn),
 co [ys "fixed32" 538,ys "Sink.fixed32" 539,ys "/claim/cut.py" 540,yi 170 0,yi 2 0,yi 0 0,yi 0 0,yi 3 0,yr 281,yb true,yi 181 0,yr 282,yn,yr 283,yr 284,yr 285,yi 543 0,yi 170 0,ys "/claim/cut.py" 544],
 fu 26 (yn) (ys "raftkeep.octets" 280) (yr 286),
 tp [],
 nf [],
 tp [ys "self" 549,ys "n" 550],
 tp [],
 ft 27 (yn),
 co [ys "fixed64" 546,ys "Sink.fixed64" 547,ys "/claim/cut.py" 548,yi 173 0,yi 2 0,yi 0 0,yi 0 0,yi 3 0,yr 288,yb true,yi 181 0,yr 289,yn,yr 290,yr 291,yr 292,yi 551 0,yi 173 0,ys "/claim/cut.py" 552],
 fu 27 (yn) (ys "raftkeep.octets" 280) (yr 293),
 tp [],
 nf [],
 tp [ys "self" 557,ys "b" 558],
 tp [],
 ft 28 (yn),
 co [ys "lengthed" 554,ys "Sink.lengthed" 555,ys "/claim/cut.py" 556,yi 176 0,yi 2 0,yi 0 0,yi 0 0,yi 3 0,yr 295,yb true,yi 181 0,yr 296,yn,yr 297,yr 298,yr 299,yi 559 0,yi 176 0,ys "/claim/cut.py" 560],
 fu 28 (yn) (ys "raftkeep.octets" 280) (yr 300),
 tp [],
 nf [],
 tp [ys "self" 565,ys "n" 566],
 tp [],
 ft 29 (yn),
 co [ys "octet" 562,ys "Sink.octet" 563,ys "/claim/cut.py" 564,yi 180 0,yi 2 0,yi 0 0,yi 0 0,yi 3 0,yr 302,yb true,yi 181 0,yr 303,yn,yr 304,yr 305,yr 306,yi 567 0,yi 180 0,ys "/claim/cut.py" 568],
 fu 29 (yn) (ys "raftkeep.octets" 280) (yr 307),
 tp [],
 nf [],
 tp [ys "self" 573,ys "b" 574],
 tp [],
 ft 30 (yn),
 co [ys "flag" 570,ys "Sink.flag" 571,ys "/claim/cut.py" 572,yi 185 0,yi 2 0,yi 0 0,yi 0 0,yi 3 0,yr 309,yb true,yi 181 0,yr 310,yn,yr 311,yr 312,yr 313,yi 575 0,yi 185 0,ys "/claim/cut.py" 576],
 fu 30 (yn) (ys "raftkeep.octets" 280) (yr 314),
 tp [],
 nf [],
 tp [ys "self" 581,ys "b" 582],
 tp [],
 ft 31 (yn),
 co [ys "raw" 578,ys "Sink.raw" 579,ys "/claim/cut.py" 580,yi 188 0,yi 2 0,yi 0 0,yi 0 0,yi 3 0,yr 316,yb true,yi 181 0,yr 317,yn,yr 318,yr 319,yr 320,yi 583 0,yi 188 0,ys "/claim/cut.py" 584],
 fu 31 (yn) (ys "raftkeep.octets" 280) (yr 321),
 tp [],
 nf [],
 tp [ys "self" 589],
 tp [],
 ft 32 (yn),
 co [ys "done" 586,ys "Sink.done" 587,ys "/claim/cut.py" 588,yi 191 0,yi 1 0,yi 0 0,yi 0 0,yi 3 0,yr 323,yb true,yi 181 0,yr 324,yn,yr 325,yr 326,yr 327,yi 590 0,yi 191 0,ys "/claim/cut.py" 591],
 fu 32 (yn) (ys "raftkeep.octets" 280) (yr 328),
 tp [ys "parts" 593],
 dc [de P "__module__" 518 (ys "raftkeep.octets" 280),de P "__firstlineno__" 522 (yi 159 521),de P "__init__" 529 (yr 273),de P "varint" 537 (yr 280),de P "fixed32" 545 (yr 287),de P "fixed64" 553 (yr 294),de P "lengthed" 561 (yr 301),de P "octet" 569 (yr 308),de P "flag" 577 (yr 315),de P "raw" 585 (yr 322),de P "done" 592 (yr 329),de P "__static_attributes__" 594 (yr 330),de P "__dict__" 596 (yr 333),de P "__weakref__" 598 (yr 334),de P "__doc__" 599 yn] 4,
 { cls:=yT "type",data:=Data.cls { name:=so "Sink",bases:=[yT "object"],mro:=[yr 332,yT "object"],ns:=331,qualname:=so "Sink" },slots:=#[none,none,some (ys "Sink" 511),some (ys "Sink" 519),some (yB "object.__new__"),some (yb true)] },
 fo "getset_descriptor" [ys "__dict__" 595,yr 332,yB "function.__dict__",yB "function.__dict__#set"],
 fo "getset_descriptor" [ys "__weakref__" 597,yr 332,yB "ExceptionGroup.__weakref__",yn],
 fo "super" [yr 332,yr 332,yr 332],
 fo "builtin_function_or_method" [yB "object.__init_subclass__",yr 332],
 tp [],
 fo "builtin_function_or_method" [yB "type.__prepare__",yT "type"],
 dc [de P "__module__" 615 (ys "raftkeep.checkpoint" 606),de P "__qualname__" 617 (ys "RunInfo" 616),de P "__firstlineno__" 619 (yi 196 618),de P "__init__" 631 (yr 350),de P "row" 638 (yr 357),de P "fits" 646 (yr 364),de P "__static_attributes__" 652 (yr 365)] 7,
 tp [],
 nf [yi 198 0,yi 4 0,yr 349,yi 205 0,yi 4 0,yr 356,yi 208 0,yi 4 0,yr 363],
 co [ys "RunInfo" 610,ys "RunInfo" 611,ys "/claim/cut.py" 612,yi 196 0,yi 0 0,yi 0 0,yi 0 0,yi 0 0,yr 340,yb false,yi 181 0,yr 341,yn,yn,yn,yn,yi 613 0,yi 196 0,ys "/claim/cut.py" 614],
 fm [some (yr 342),some (yr 3),some (yr 339),none,some (ys "raftkeep.checkpoint" 606),none,some (yr 0)],
 tp [],
 nf [],
 tp [ys "self" 623,ys "level" 624,ys "size" 625,ys "check" 626,ys "smallest" 627,ys "largest" 628],
 tp [],
 ft 33 (yn),
 co [ys "__init__" 620,ys "RunInfo.__init__" 621,ys "/claim/cut.py" 622,yi 198 0,yi 6 0,yi 0 0,yi 0 0,yi 3 0,yr 344,yb true,yi 181 0,yr 345,yn,yr 346,yr 347,yr 348,yi 629 0,yi 198 0,ys "/claim/cut.py" 630],
 fu 33 (yn) (ys "raftkeep.checkpoint" 606) (yr 349),
 tp [],
 nf [],
 tp [ys "self" 635],
 tp [],
 ft 34 (yn),
 co [ys "row" 632,ys "RunInfo.row" 633,ys "/claim/cut.py" 634,yi 205 0,yi 1 0,yi 0 0,yi 0 0,yi 3 0,yr 351,yb true,yi 181 0,yr 352,yn,yr 353,yr 354,yr 355,yi 636 0,yi 205 0,ys "/claim/cut.py" 637],
 fu 34 (yn) (ys "raftkeep.checkpoint" 606) (yr 356),
 tp [],
 nf [],
 tp [ys "self" 642,ys "data" 643],
 tp [],
 ft 35 (yn),
 co [ys "fits" 639,ys "RunInfo.fits" 640,ys "/claim/cut.py" 641,yi 208 0,yi 2 0,yi 0 0,yi 0 0,yi 3 0,yr 358,yb true,yi 181 0,yr 359,yn,yr 360,yr 361,yr 362,yi 644 0,yi 208 0,ys "/claim/cut.py" 645],
 fu 35 (yn) (ys "raftkeep.checkpoint" 606) (yr 363),
 tp [ys "check" 647,ys "largest" 648,ys "level" 649,ys "size" 650,ys "smallest" 651],
 dc [de P "__module__" 615 (ys "raftkeep.checkpoint" 606),de P "__firstlineno__" 619 (yi 196 618),de P "__init__" 631 (yr 350),de P "row" 638 (yr 357),de P "fits" 646 (yr 364),de P "__static_attributes__" 652 (yr 365),de P "__dict__" 654 (yr 368),de P "__weakref__" 656 (yr 369),de P "__doc__" 657 yn] 4,
 { cls:=yT "type",data:=Data.cls { name:=so "RunInfo",bases:=[yT "object"],mro:=[yr 367,yT "object"],ns:=366,qualname:=so "RunInfo" },slots:=#[none,none,some (ys "RunInfo" 608),some (ys "RunInfo" 616),some (yB "object.__new__"),some (yb true)] },
 fo "getset_descriptor" [ys "__dict__" 653,yr 367,yB "function.__dict__",yB "function.__dict__#set"],
 fo "getset_descriptor" [ys "__weakref__" 655,yr 367,yB "ExceptionGroup.__weakref__",yn],
 fo "super" [yr 367,yr 367,yr 367],
 fo "builtin_function_or_method" [yB "object.__init_subclass__",yr 367],
 tp [],
 fo "builtin_function_or_method" [yB "type.__prepare__",yT "type"],
 dc [de P "__module__" 667 (ys "raftkeep.checkpoint" 606),de P "__qualname__" 669 (ys "Manifesto" 668),de P "__firstlineno__" 671 (yi 210 670),de P "__init__" 683 (yr 385),de P "row" 692 (yr 392),de P "encode" 701 (yr 399),de P "__static_attributes__" 707 (yr 400)] 7,
 tp [],
 nf [yi 212 0,yi 4 0,yr 384,yi 219 0,yi 4 0,yr 391,yi 225 0,yi 4 0,yr 398],
 co [ys "Manifesto" 662,ys "Manifesto" 663,ys "/claim/cut.py" 664,yi 210 0,yi 0 0,yi 0 0,yi 0 0,yi 0 0,yr 375,yb false,yi 181 0,yr 376,yn,yn,yn,yn,yi 665 0,yi 210 0,ys "/claim/cut.py" 666],
 fm [some (yr 377),some (yr 3),some (yr 374),none,some (ys "raftkeep.checkpoint" 606),none,some (yr 0)],
 tp [],
 nf [],
 tp [ys "self" 675,ys "index" 676,ys "term" 677,ys "conf_octets" 678,ys "last_seq" 679,ys "runs" 680],
 tp [],
 ft 36 (yn),
 co [ys "__init__" 672,ys "Manifesto.__init__" 673,ys "/claim/cut.py" 674,yi 212 0,yi 6 0,yi 0 0,yi 0 0,yi 3 0,yr 379,yb true,yi 181 0,yr 380,yn,yr 381,yr 382,yr 383,yi 681 0,yi 212 0,ys "/claim/cut.py" 682],
 fu 36 (yn) (ys "raftkeep.checkpoint" 606) (yr 384),
 tp [],
 nf [],
 tp [ys "self" 687,ys "rows" 688,ys "run" 689],
 tp [],
 ft 37 (yn),
 co [ys "row" 684,ys "Manifesto.row" 685,ys "/claim/cut.py" 686,yi 219 0,yi 1 0,yi 0 0,yi 0 0,yi 3 0,yr 386,yb true,yi 181 0,yr 387,yn,yr 388,yr 389,yr 390,yi 690 0,yi 219 0,ys "/claim/cut.py" 691],
 fu 37 (yn) (ys "raftkeep.checkpoint" 606) (yr 391),
 tp [],
 nf [],
 tp [ys "self" 696,ys "sink" 697,ys "run" 698],
 tp [],
 ft 38 (yn),
 co [ys "encode" 693,ys "Manifesto.encode" 694,ys "/claim/cut.py" 695,yi 225 0,yi 1 0,yi 0 0,yi 0 0,yi 3 0,yr 393,yb true,yi 181 0,yr 394,yn,yr 395,yr 396,yr 397,yi 699 0,yi 225 0,ys "/claim/cut.py" 700],
 fu 38 (yn) (ys "raftkeep.checkpoint" 606) (yr 398),
 tp [ys "conf_octets" 702,ys "index" 703,ys "last_seq" 704,ys "runs" 705,ys "term" 706],
 dc [de P "__module__" 667 (ys "raftkeep.checkpoint" 606),de P "__firstlineno__" 671 (yi 210 670),de P "__init__" 683 (yr 385),de P "row" 692 (yr 392),de P "encode" 701 (yr 399),de P "__static_attributes__" 707 (yr 400),de P "__dict__" 709 (yr 403),de P "__weakref__" 711 (yr 404),de P "__doc__" 712 yn] 4,
 { cls:=yT "type",data:=Data.cls { name:=so "Manifesto",bases:=[yT "object"],mro:=[yr 402,yT "object"],ns:=401,qualname:=so "Manifesto" },slots:=#[none,none,some (ys "Manifesto" 660),some (ys "Manifesto" 668),some (yB "object.__new__"),some (yb true)] },
 fo "getset_descriptor" [ys "__dict__" 708,yr 402,yB "function.__dict__",yB "function.__dict__#set"],
 fo "getset_descriptor" [ys "__weakref__" 710,yr 402,yB "ExceptionGroup.__weakref__",yn],
 fo "super" [yr 402,yr 402,yr 402],
 fo "builtin_function_or_method" [yB "object.__init_subclass__",yr 402],
 tp [],
 nf [],
 tp [ys "data" 718,ys "cursor" 719,ys "index" 720,ys "term" 721,ys "last_seq" 722,ys "conf_octets" 723,ys "count" 724,ys "runs" 725,ys "level" 726,ys "size" 727,ys "check" 728,ys "smallest" 729,ys "largest" 730],
 tp [],
 ft 39 (yn),
 co [ys "decode_manifesto" 715,ys "decode_manifesto" 716,ys "/claim/cut.py" 717,yi 239 0,yi 1 0,yi 0 0,yi 0 0,yi 3 0,yr 407,yb true,yi 181 0,yr 408,yn,yr 409,yr 410,yr 411,yi 731 0,yi 239 0,ys "/claim/cut.py" 732],
 fu 39 (yn) (ys "raftkeep.checkpoint" 606) (yr 412),
 tp [],
 nf [],
 tp [ys "kept" 737,ys "at" 738,ys "octets" 739,ys "start" 740,ys "old" 741],
 tp [],
 ft 40 (yn),
 co [ys "lay" 734,ys "lay" 735,ys "/claim/cut.py" 736,yi 260 0,yi 3 0,yi 0 0,yi 0 0,yi 3 0,yr 414,yb true,yi 181 0,yr 415,yn,yr 416,yr 417,yr 418,yi 742 0,yi 260 0,ys "/claim/cut.py" 743],
 fu 40 (yn) (ys "raftkeep.checkpoint" 606) (yr 419),
 tp [],
 fo "builtin_function_or_method" [yB "type.__prepare__",yT "type"],
 dc [de P "__module__" 752 (ys "raftkeep.checkpoint" 606),de P "__qualname__" 754 (ys "Inbox" 753),de P "__firstlineno__" 756 (yi 267 755),de P "__init__" 766 (yr 434),de P "first_hole" 777 (yr 441),de P "missing" 786 (yr 448),de P "whole" 793 (yr 455),de P "take" 811 (yr 462),de P "runs" 817 (yr 467),de P "row" 826 (yr 474),de P "__static_attributes__" 830 (yr 475)] 11,
 tp [],
 nf [yi 269 0,yi 4 0,yr 433,yi 278 0,yi 4 0,yr 440,yi 286 0,yi 4 0,yr 447,yi 293 0,yi 4 0,yr 454,yi 296 0,yi 4 0,yr 461,yi 320 0,yi 4 0,yr 466,yi 336 0,yi 4 0,yr 473],
 co [ys "Inbox" 747,ys "Inbox" 748,ys "/claim/cut.py" 749,yi 267 0,yi 0 0,yi 0 0,yi 0 0,yi 0 0,yr 424,yb false,yi 181 0,yr 425,yn,yn,yn,yn,yi 750 0,yi 267 0,ys "/claim/cut.py" 751],
 fm [some (yr 426),some (yr 3),some (yr 423),none,some (ys "raftkeep.checkpoint" 606),none,some (yr 0)],
 tp [],
 nf [],
 tp [ys "self" 760,ys "manifesto" 761,ys "piece_limit" 762,ys "run" 763],
 tp [],
 ft 41 (yn),
 co [ys "__init__" 757,ys "Inbox.__init__" 758,ys "/claim/cut.py" 759,yi 269 0,yi 3 0,yi 0 0,yi 0 0,yi 3 0,yr 428,yb true,yi 181 0,yr 429,yn,yr 430,yr 431,yr 432,yi 764 0,yi 269 0,ys "/claim/cut.py" 765],
 fu 41 (yn) (ys "raftkeep.checkpoint" 606) (yr 433),
 tp [],
 nf [],
 tp [ys "self" 770,ys "run" 771,ys "end" 772,ys "offset" 773,ys "octets" 774],
 tp [],
 ft 42 (yn),
 co [ys "first_hole" 767,ys "Inbox.first_hole" 768,ys "/claim/cut.py" 769,yi 278 0,yi 2 0,yi 0 0,yi 0 0,yi 3 0,yr 435,yb true,yi 181 0,yr 436,yn,yr 437,yr 438,yr 439,yi 775 0,yi 278 0,ys "/claim/cut.py" 776],
 fu 42 (yn) (ys "raftkeep.checkpoint" 606) (yr 440),
 tp [],
 nf [],
 tp [ys "self" 781,ys "run" 782,ys "offset" 783],
 tp [],
 ft 43 (yn),
 co [ys "missing" 778,ys "Inbox.missing" 779,ys "/claim/cut.py" 780,yi 286 0,yi 1 0,yi 0 0,yi 0 0,yi 3 0,yr 442,yb true,yi 181 0,yr 443,yn,yr 444,yr 445,yr 446,yi 784 0,yi 286 0,ys "/claim/cut.py" 785],
 fu 43 (yn) (ys "raftkeep.checkpoint" 606) (yr 447),
 tp [],
 nf [],
 tp [ys "self" 790],
 tp [],
 ft 44 (yn),
 co [ys "whole" 787,ys "Inbox.whole" 788,ys "/claim/cut.py" 789,yi 293 0,yi 1 0,yi 0 0,yi 0 0,yi 3 0,yr 449,yb true,yi 181 0,yr 450,yn,yr 451,yr 452,yr 453,yi 791 0,yi 293 0,ys "/claim/cut.py" 792],
 fu 44 (yn) (ys "raftkeep.checkpoint" 606) (yr 454),
 tp [],
 nf [],
 tp [ys "self" 797,ys "run" 798,ys "offset" 799,ys "octets" 800,ys "piece" 801,ys "end" 802,ys "kept" 803,ys "at" 804,ys "new" 805,ys "start" 806,ys "old" 807,ys "stop" 808],
 tp [],
 ft 45 (yn),
 co [ys "take" 794,ys "Inbox.take" 795,ys "/claim/cut.py" 796,yi 296 0,yi 4 0,yi 0 0,yi 0 0,yi 3 0,yr 456,yb true,yi 181 0,yr 457,yn,yr 458,yr 459,yr 460,yi 809 0,yi 296 0,ys "/claim/cut.py" 810],
 fu 45 (yn) (ys "raftkeep.checkpoint" 606) (yr 461),
 tp [],
 nf [],
 ft 46 (yn),
 co [ys "runs" 812,ys "Inbox.runs" 813,ys "/claim/cut.py" 814,yi 320 0,yi 1 0,yi 0 0,yi 0 0,yi 3 0,yr 463,yb true,yi 181 0,yr 464,yn,yn,yn,yr 465,yi 815 0,yi 320 0,ys "/claim/cut.py" 816],
 fu 46 (yn) (ys "raftkeep.checkpoint" 606) (yr 466),
 tp [],
 nf [],
 tp [ys "self" 821,ys "rows" 822,ys "pieces" 823],
 tp [],
 ft 47 (yn),
 co [ys "row" 818,ys "Inbox.row" 819,ys "/claim/cut.py" 820,yi 336 0,yi 1 0,yi 0 0,yi 0 0,yi 3 0,yr 468,yb true,yi 181 0,yr 469,yn,yr 470,yr 471,yr 472,yi 824 0,yi 336 0,ys "/claim/cut.py" 825],
 fu 47 (yn) (ys "raftkeep.checkpoint" 606) (yr 473),
 tp [ys "held" 827,ys "manifesto" 828,ys "piece_limit" 829],
 dc [de P "__module__" 752 (ys "raftkeep.checkpoint" 606),de P "__firstlineno__" 756 (yi 267 755),de P "__init__" 766 (yr 434),de P "first_hole" 777 (yr 441),de P "missing" 786 (yr 448),de P "whole" 793 (yr 455),de P "take" 811 (yr 462),de P "runs" 817 (yr 467),de P "row" 826 (yr 474),de P "__static_attributes__" 830 (yr 475),de P "__dict__" 832 (yr 478),de P "__weakref__" 834 (yr 479),de P "__doc__" 835 yn] 4,
 { cls:=yT "type",data:=Data.cls { name:=so "Inbox",bases:=[yT "object"],mro:=[yr 477,yT "object"],ns:=476,qualname:=so "Inbox" },slots:=#[none,none,some (ys "Inbox" 745),some (ys "Inbox" 753),some (yB "object.__new__"),some (yb true)] },
 fo "getset_descriptor" [ys "__dict__" 831,yr 477,yB "function.__dict__",yB "function.__dict__#set"],
 fo "getset_descriptor" [ys "__weakref__" 833,yr 477,yB "ExceptionGroup.__weakref__",yn],
 fo "super" [yr 477,yr 477,yr 477],
 fo "builtin_function_or_method" [yB "object.__init_subclass__",yr 477],
 tp [],
 nf [],
 tp [ys "nums" 843,ys "i" 844],
 tp [],
 ft 48 (yn),
 co [ys "_law_draw" 840,ys "_law_draw" 841,ys "/claim/cut.py" 842,yi 342 0,yi 2 0,yi 0 0,yi 0 0,yi 3 0,yr 482,yb true,yi 181 0,yr 483,yn,yr 484,yr 485,yr 486,yi 845 0,yi 342 0,ys "/claim/cut.py" 846],
 fu 48 (yn) (ys "law_xm0850_02" 838) (yr 487),
 tp [],
 nf [],
 tp [ys "y" 851],
 tp [],
 ft 49 (yn),
 co [ys "_law_field" 848,ys "_law_field" 849,ys "/claim/cut.py" 850,yi 344 0,yi 1 0,yi 0 0,yi 0 0,yi 3 0,yr 489,yb true,yi 181 0,yr 490,yn,yr 491,yr 492,yr 493,yi 852 0,yi 344 0,ys "/claim/cut.py" 853],
 fu 49 (yn) (ys "law_xm0850_02" 838) (yr 494),
 tp [],
 nf [],
 tp [ys "n" 858],
 tp [],
 ft 50 (yn),
 co [ys "_law_number" 855,ys "_law_number" 856,ys "/claim/cut.py" 857,yi 348 0,yi 1 0,yi 0 0,yi 0 0,yi 3 0,yr 496,yb true,yi 181 0,yr 497,yn,yr 498,yr 499,yr 500,yi 859 0,yi 348 0,ys "/claim/cut.py" 860],
 fu 50 (yn) (ys "law_xm0850_02" 838) (yr 501),
 tp [],
 nf [],
 tp [ys "octets" 865],
 tp [],
 ft 51 (yn),
 co [ys "_law_text" 862,ys "_law_text" 863,ys "/claim/cut.py" 864,yi 352 0,yi 1 0,yi 0 0,yi 0 0,yi 3 0,yr 503,yb true,yi 181 0,yr 504,yn,yr 505,yr 506,yr 507,yi 866 0,yi 352 0,ys "/claim/cut.py" 867],
 fu 51 (yn) (ys "law_xm0850_02" 838) (yr 508),
 tp [],
 nf [],
 tp [ys "row" 872,ys "out" 873,ys "level" 874,ys "size" 875,ys "check" 876,ys "low" 877,ys "high" 878],
 tp [],
 ft 52 (yn),
 co [ys "_law_octets" 869,ys "_law_octets" 870,ys "/claim/cut.py" 871,yi 354 0,yi 1 0,yi 0 0,yi 0 0,yi 3 0,yr 510,yb true,yi 181 0,yr 511,yn,yr 512,yr 513,yr 514,yi 879 0,yi 354 0,ys "/claim/cut.py" 880],
 fu 52 (yn) (ys "law_xm0850_02" 838) (yr 515),
 tp [],
 nf [],
 ft 53 (yn),
 co [ys "_law_made" 882,ys "_law_made" 883,ys "/claim/cut.py" 884,yi 364 0,yi 1 0,yi 0 0,yi 0 0,yi 3 0,yr 517,yb true,yi 181 0,yr 518,yn,yn,yn,yr 519,yi 885 0,yi 364 0,ys "/claim/cut.py" 886],
 fu 53 (yn) (ys "law_xm0850_02" 838) (yr 520),
 tp [],
 nf [],
 tp [ys "data" 891],
 tp [],
 ft 54 (yn),
 co [ys "_law_read" 888,ys "_law_read" 889,ys "/claim/cut.py" 890,yi 367 0,yi 1 0,yi 0 0,yi 0 0,yi 3 0,yr 522,yb true,yi 181 0,yr 523,yn,yr 524,yr 525,yr 526,yi 892 0,yi 367 0,ys "/claim/cut.py" 893],
 fu 54 (yn) (ys "law_xm0850_02" 838) (yr 527),
 tp [],
 nf [],
 tp [ys "data" 898],
 tp [],
 ft 55 (yn),
 co [ys "_law_why" 895,ys "_law_why" 896,ys "/claim/cut.py" 897,yi 372 0,yi 1 0,yi 0 0,yi 0 0,yi 3 0,yr 529,yb true,yi 181 0,yr 530,yn,yr 531,yr 532,yr 533,yi 899 0,yi 372 0,ys "/claim/cut.py" 900],
 fu 55 (yn) (ys "law_xm0850_02" 838) (yr 534),
 tp [],
 nf [],
 tp [ys "box" 905],
 tp [],
 ft 56 (yn),
 co [ys "_law_runs" 902,ys "_law_runs" 903,ys "/claim/cut.py" 904,yi 380 0,yi 1 0,yi 0 0,yi 0 0,yi 3 0,yr 536,yb true,yi 181 0,yr 537,yn,yr 538,yr 539,yr 540,yi 906 0,yi 380 0,ys "/claim/cut.py" 907],
 fu 56 (yn) (ys "law_xm0850_02" 838) (yr 541),
 tp [],
 nf [],
 tp [ys "flags" 912,ys "run" 913],
 tp [],
 ft 57 (yn),
 co [ys "_law_hole" 909,ys "_law_hole" 910,ys "/claim/cut.py" 911,yi 387 0,yi 1 0,yi 0 0,yi 0 0,yi 3 0,yr 543,yb true,yi 181 0,yr 544,yn,yr 545,yr 546,yr 547,yi 914 0,yi 387 0,ys "/claim/cut.py" 915],
 fu 57 (yn) (ys "law_xm0850_02" 838) (yr 548),
 tp [],
 nf [],
 tp [ys "box" 920,ys "flags" 921,ys "limit" 922,ys "run" 923,ys "offset" 924,ys "octets" 925,ys "new" 926,ys "place" 927],
 tp [],
 ft 58 (yn),
 co [ys "_law_give" 917,ys "_law_give" 918,ys "/claim/cut.py" 919,yi 392 0,yi 6 0,yi 0 0,yi 0 0,yi 3 0,yr 550,yb true,yi 181 0,yr 551,yn,yr 552,yr 553,yr 554,yi 928 0,yi 392 0,ys "/claim/cut.py" 929],
 fu 58 (yn) (ys "law_xm0850_02" 838) (yr 555),
 tp [],
 nf [],
 ft 59 (yn),
 co [ys "_law_order" 931,ys "_law_order" 932,ys "/claim/cut.py" 933,yi 400 0,yi 2 0,yi 0 0,yi 0 0,yi 3 0,yr 557,yb true,yi 181 0,yr 558,yn,yn,yn,yr 559,yi 934 0,yi 400 0,ys "/claim/cut.py" 935],
 fu 59 (yn) (ys "law_xm0850_02" 838) (yr 560),
 tp [],
 nf [],
 tp [ys "row" 940,ys "made" 941,ys "octets" 942,ys "back" 943],
 tp [],
 ft 60 (yn),
 co [ys "_law_whole" 937,ys "_law_whole" 938,ys "/claim/cut.py" 939,yi 408 0,yi 1 0,yi 0 0,yi 0 0,yi 3 0,yr 562,yb true,yi 181 0,yr 563,yn,yr 564,yr 565,yr 566,yi 944 0,yi 408 0,ys "/claim/cut.py" 945],
 fu 60 (yn) (ys "law_xm0850_02" 838) (yr 567),
 tp [],
 nf [],
 ft 61 (yn),
 co [ys "law" 947,ys "law" 948,ys "/claim/cut.py" 949,yi 417 0,yi 1 0,yi 0 0,yi 0 0,yi 3 0,yr 569,yb true,yi 181 0,yr 570,yn,yn,yn,yr 571,yi 950 0,yi 417 0,ys "/claim/cut.py" 951],
 fu 61 (yn) (ys "law_xm0850_02" 838) (yr 572)]
end Ab
end
section
set_option maxHeartbeats 8000000
namespace Ab
open PySem PySem.W PyProof.Rows
noncomputable def mkBT:List Obj->Nat->BT->BT
 | [],_,t=>t
 | o::l,i,t=>mkBT l (i+1) (t.ins i o)
noncomputable def cut0 (P:Params):BT:=mkBT (((((ob P).take 15).set 2 (boot_o_2 P)).set 3 (boot_o_3 P)).set 12 (nf [])) 0 .nil
noncomputable def cutA (P:Params) (n:Nat) (x:String) (t:Tok) (m k:Nat):BT:=mkBT ((((ob P).take n).set 3 (dc (de P "__name__" 165 (ys x t)::((dic P).drop 1).take (m - 1)) m)).set 12 (nf (tbl.take k))) 0 .nil
noncomputable abbrev stA (t:BT) (n:Nat) (k:Tok) (os:OsState):SharedT:={ tree:=t,n:=n,life:={},gens:=Array.mk [],drawn:={},toks:=k,os:=os }
noncomputable def hpP (P:Params):Heap:=⟨(ob P).toArray,{}⟩
noncomputable def env1:Env:={ scope:=prg.main.scope,locals:=mainNs,globals:=mainNs,cells:=[],code:=.ref 13,frame:=some 14 }
noncomputable abbrev bd:List Stmt:=behindTheImports prg
noncomputable abbrev cod:Code:=.body bd env1
noncomputable abbrev ps0:Pos:=⟨0,0,0,0⟩
theorem segT (p w a b c d e f):segRunT treeTable p w a b c d e f=PySem.W.Fast.tw10110043849684766642 PySem.W.Fast.tw14364793385576792824 p w a b c d e f:=by
 rw [PySem.W.Fast.te10110043849684766642,PySem.W.Fast.te14364793385576792824]
theorem segG (p w a b c d e f):segRun treeTable p w a b c d e f=PySem.W.Fast.tw14374325043358763698 PySem.W.Fast.tw14364793385576792824 p w a b c d e f:=by
 rw [PySem.W.Fast.te14374325043358763698,PySem.W.Fast.te14364793385576792824]
theorem topR (p w a b c d e):topRun treeTable p w a b c d e=PySem.W.Fast.tw14082659384304107361 PySem.W.Fast.tw14364793385576792824 p w a b c d e:=by
 rw [PySem.W.Fast.te14082659384304107361,PySem.W.Fast.te14364793385576792824]
theorem topG (p w a b c d e):topGo treeTable p w a b c d e=PySem.W.Fast.tw15667345088766844465 PySem.W.Fast.tw14364793385576792824 p w a b c d e:=by
 rw [PySem.W.Fast.te15667345088766844465,PySem.W.Fast.te14364793385576792824]
section
variable (w:World) (os:OsState)
theorem hdA:topGo treeTable prg w 11 (some (.ref 6)) 12 { heap:=boot_heap w.params,gens:=Array.mk [],drawn:=boot_drawn,toks:=boot_toks,os:=os } (topStub prg) =
  some ((stA (cut0 w.params) 15 187 os).abs,⟨denote treeTable cod,cod,ps0,[topFrame ps0]⟩):=(topG ..).trans (by rw [PySem.W.Fast.te11892475500146522536,PySem.W.Fast.te14364793385576792824];kernel_rfl)
theorem hdB:segRun treeTable prg w 11 (some (.ref 6)) 1 1 (stA (cut0 w.params) 15 187 os).abs (blockOf bd env1 cod ps0 [topFrame ps0])=some (.next,(stA (cut0 w.params) 15 187 os).abs,cod,ps0):=(segG ..).trans (by kernel_rfl)
noncomputable abbrev bd0:List Stmt:=(bd.drop 0).take 17
theorem hd0:segRunT treeTable prg w 11 (some (.ref 6)) 1 1306 (stA (cut0 w.params) 15 187 os) (piecesOf bd0 env1 cod ⟨0,0,0,0⟩ [topFrame ps0])=some (.next,stA (cutA w.params 104 "raftkeep.octets" 280 24 27) 104 324 os,cod,⟨48,0,51,34⟩):=(segT ..).trans (by kernel_rfl)
noncomputable abbrev bd1:List Stmt:=(bd.drop 17).take 10
theorem hd1:segRunT treeTable prg w 11 (some (.ref 6)) 1 306 (stA (cutA w.params 104 "raftkeep.octets" 280 24 27) 104 324 os) (piecesOf bd1 env1 cod ⟨48,0,51,34⟩ [topFrame ps0])=some (.next,stA (cutA w.params 175 "raftkeep.octets" 280 34 57) 175 408 os,cod,⟨100,0,105,50⟩):=(segT ..).trans (by kernel_rfl)
noncomputable abbrev bd2:List Stmt:=(bd.drop 27).take 1
theorem hd2:segRunT treeTable prg w 11 (some (.ref 6)) 1 514 (stA (cutA w.params 175 "raftkeep.octets" 280 34 57) 175 408 os) (piecesOf bd2 env1 cod ⟨100,0,105,50⟩ [topFrame ps0])=some (.next,stA (cutA w.params 260 "raftkeep.octets" 280 35 60) 260 511 os,cod,⟨106,0,158,64⟩):=(segT ..).trans (by kernel_rfl)
noncomputable abbrev bd3:List Stmt:=(bd.drop 28).take 1
theorem hd3:segRunT treeTable prg w 11 (some (.ref 6)) 1 477 (stA (cutA w.params 260 "raftkeep.octets" 280 35 60) 260 511 os) (piecesOf bd3 env1 cod ⟨106,0,158,64⟩ [topFrame ps0])=some (.next,stA (cutA w.params 337 "raftkeep.octets" 280 36 63) 337 602 os,cod,⟨159,0,192,32⟩):=(segT ..).trans (by kernel_rfl)
noncomputable abbrev bd4:List Stmt:=(bd.drop 29).take 4
theorem hd4:segRunT treeTable prg w 11 (some (.ref 6)) 1 321 (stA (cutA w.params 337 "raftkeep.octets" 280 36 63) 337 602 os) (piecesOf bd4 env1 cod ⟨159,0,192,32⟩ [topFrame ps0])=some (.next,stA (cutA w.params 372 "raftkeep.checkpoint" 606 39 66) 372 660 os,cod,⟨196,0,209,81⟩):=(segT ..).trans (by kernel_rfl)
noncomputable abbrev bd5:List Stmt:=(bd.drop 33).take 3
theorem hd5:segRunT treeTable prg w 11 (some (.ref 6)) 1 371 (stA (cutA w.params 372 "raftkeep.checkpoint" 606 39 66) 372 660 os) (piecesOf bd5 env1 cod ⟨196,0,209,81⟩ [topFrame ps0])=some (.next,stA (cutA w.params 421 "raftkeep.checkpoint" 606 42 75) 421 745 os,cod,⟨260,0,266,29⟩):=(segT ..).trans (by kernel_rfl)
noncomputable abbrev bd6:List Stmt:=(bd.drop 36).take 1
theorem hd6:segRunT treeTable prg w 11 (some (.ref 6)) 1 429 (stA (cutA w.params 421 "raftkeep.checkpoint" 606 42 75) 421 745 os) (piecesOf bd6 env1 cod ⟨260,0,266,29⟩ [topFrame ps0])=some (.next,stA (cutA w.params 482 "raftkeep.checkpoint" 606 43 78) 482 838 os,cod,⟨267,0,340,50⟩):=(segT ..).trans (by kernel_rfl)
noncomputable abbrev bd7:List Stmt:=(bd.drop 37).take 14
theorem hd7:segRunT treeTable prg w 11 (some (.ref 6)) 1 399 (stA (cutA w.params 482 "raftkeep.checkpoint" 606 43 78) 482 838 os) (piecesOf bd7 env1 cod ⟨267,0,340,50⟩ [topFrame ps0])=some (.next,stA (cutA w.params 569 "law_xm0850_02" 838 56 117) 569 947 os,cod,⟨408,0,416,15⟩):=(segT ..).trans (by kernel_rfl)
noncomputable abbrev bd8:List Stmt:=(bd.drop 51).take 1
theorem hd8:segRunT treeTable prg w 11 (some (.ref 6)) 1 27 (stA (cutA w.params 569 "law_xm0850_02" 838 56 117) 569 947 os) (piecesOf bd8 env1 cod ⟨408,0,416,15⟩ [topFrame ps0])=some (.next,stA (cutA w.params 574 "law_xm0850_02" 838 57 120) 574 953 os,cod,⟨417,0,505,37⟩):=(segT ..).trans (by kernel_rfl)
theorem hdZ:topRun treeTable prg w 11 (some (.ref 6)) 2 (stA (cutA w.params 574 "law_xm0850_02" 838 57 120) 574 953 os).abs (restOf [] env1 cod ⟨417,0,505,37⟩ [topFrame ps0])=some { heap:=hpP w.params,gens:=Array.mk [],toks:=953,os:=os }:=(topR ..).trans (by kernel_rfl)
theorem bd_all:bd0++(bd1++(bd2++(bd3++(bd4++(bd5++(bd6++(bd7++(bd8++[]))))))))=bd:=by kernel_rfl
theorem run:topRun treeTable prg w 11 (some (.ref 6)) (12 + (1 + (1306 + (306 + (514 + (477 + (321 + (371 + (429 + (399 + (27 + 2))))))))))) { heap:=boot_heap w.params,gens:=Array.mk [],drawn:=boot_drawn,toks:=boot_toks,os:=os } (topStub prg)=some { heap:=hpP w.params,gens:=Array.mk [],toks:=953,os:=os } :=
 go_top (hdA w os) (piece_block (hdB w os) (bd_all▸(piece_app (segRun_of (hd0 w os)) (piece_app (segRun_of (hd1 w os)) (piece_app (segRun_of (hd2 w os)) (piece_app (segRun_of (hd3 w os)) (piece_app (segRun_of (hd4 w os)) (piece_app (segRun_of (hd5 w os)) (piece_app (segRun_of (hd6 w os)) (piece_app (segRun_of (hd7 w os)) (piece_app (segRun_of (hd8 w os)) (hdZ w os))))))))))))
end
noncomputable def ad:List Addr:=[2,3,15,17,18,20,21,22,29,30,31,32,35,42,43,44,47,54,55,56,59,66,67,68,71,78,79,80,83,85,86,88,89,90,92,93,95,96,97,99,100,102,103,104,106,107,109,110,111,113,114,116,117,118,120,121,123,124,125,127,128,130,131,132,134,135,137,138,139,141,142,144,145,146,148,149,151,152,153,154,156,157,159,160,161,163,164,166,167,168,170,171,173,174,182,183,185,186,188,189,190,192,193,195,196,197,199,200,202,203,204,206,207,209,210,211,213,214,216,217,218,220,221,223,224,225,227,228,230,231,232,234,235,237,238,239,241,242,244,245,246,248,249,251,252,253,254,255,256,257,267,269,270,272,273,274,276,277,279,280,281,283,284,286,287,288,290,291,293,294,295,297,298,300,301,302,304,305,307,308,309,311,312,314,315,316,318,319,321,322,323,325,326,328,329,330,331,332,333,334,344,346,347,349,350,351,353,354,356,357,358,360,361,363,364,365,366,367,368,369,379,381,382,384,385,386,388,389,391,392,393,395,396,398,399,400,401,402,403,404,407,409,410,412,413,414,416,417,419,420,428,430,431,433,434,435,437,438,440,441,442,444,445,447,448,449,451,452,454,455,456,458,459,461,462,463,466,467,468,470,471,473,474,475,476,477,478,479,482,484,485,487,488,489,491,492,494,495,496,498,499,501,502,503,505,506,508,509,510,512,513,515,516,517,520,521,522,524,525,527,528,529,531,532,534,535,536,538,539,541,542,543,545,546,548,549,550,552,553,555,556,557,560,561,562,564,565,567,568,569,572,573]
end Ab
end
section
set_option maxHeartbeats 8000000
namespace Ab
open PySem PySem.W PyProof.Rows
noncomputable abbrev rwL:OpenLaw:=PySem.Challenge.rw_xm0850_02
noncomputable def isNm (s:Stmt):Bool:=match s with
 | .Assign [.Name n _] _ _=>n=="__name__"
 | .FunctionDef n ..=>n=="crc32c"
 | _=>false
noncomputable def vw:Program:={ prg with main:={ prg.main with body:=prg.main.body.filter fun s=>!isNm s } }
noncomputable def HP (P:Params):Frag:=ad.map fun a=>(a,(ob P).getD a default)
theorem hp_ad (P:Params):ad=(HP P).map (·.1):=by kernel_rfl
noncomputable abbrev hk:Hook:=kHook HP ad hp_ad
noncomputable abbrev lo:List Str:=[Str.ofString "crc32c"]
theorem dl_some:(defOf vw rwL.row.name).isSome=true:=by kernel_rfl
noncomputable def dl:DefRec:=((defOf vw rwL.row.name).get dl_some).1
noncomputable abbrev xt (s:Shared):Bool:=xlAt vw [] s&&recOk rwL.row.records s
noncomputable abbrev sE (w:World) (os:OsState):Shared:={ heap:=hpP w.params,gens:=Array.mk [],toks:=953,os:=os }
theorem said:rwL.wellSaid=true:=(congrFun PySem.W.Fast.te9446332074065402090 _).trans (by kernel_rfl)
theorem hl1 (w:World) (os:OsState):(staticsOk (importedModules prg.main.body) (boot_heap w.params) (hpP w.params)&&namesBound prg (hpP w.params)&&gensDone (sE w os)&&laidKept (boot_heap w.params) (hpP w.params))=true:=by kernel_rfl
theorem hl2 (w:World) (os:OsState):openSeen vw lo (importedModules prg.main.body) xt true (sE w os)=openGood vw lo:=by
 rw [PySem.W.Fast.te4187177175401517315];kernel_rfl
theorem hl3 (w:World) (os:OsState):hk.obs (sE w os)=hk.val w:=by kernel_rfl
theorem hl4 (w:World):((boot_heap w.params).isNs mainGlobals&&(Array.mk ([]:List GenState)).size==0,(boot_heap w.params).objs.size,(boot_heap w.params).nsMap mainGlobals "__annotations__")=(true,11,some (.ref 6)):=by kernel_rfl
theorem left:LeftO prg vw lo xt hk.obs hk.val 6000 true :=
 LeftO.of_pieces (boot_open (by kernel_rfl) (by decide) fun s=>by kernel_rfl) hl4 run (by decide) fun w=>funext fun os=>by rw [hl1 w os,hl2 w os,hl3 w os]
theorem hd (walk:WalkP vw lo (XL vw []) hk.says rwL.row.toRowW dl [] fun f vs=>PySem.call f vs):rwL.Holds :=
 holds_law said fun said'=>Hd.PySem.W.holds_open left hk.of hk.keeps (fun s e=>xl_of s (Bool.and_eq_true_iff.mp e).1) XL.keeps (by kernel_rfl) (by kernel_rfl) (by kernel_rfl) (fun s e=>recFacts_of (Bool.and_eq_true_iff.mp e).2) (by kernel_rfl) said' (by kernel_rfl) ⟨rfl,rfl,rfl,rfl,rfl,by kernel_rfl⟩ ⟨[.list []],by kernel_rfl,by kernel_rfl⟩ walk
end Ab
end
section
namespace Ab
open PySem PySem.W PyProof.Rows
section
variable (P:Params)
theorem st_f1:rows.all (fn1 (HP P))=true:=by kernel_rfl
theorem st_f2:rows.all (fn2 (HP P))=true:=by kernel_rfl
theorem st_f3:rows.all (fn3 (HP P))=true:=by kernel_rfl
theorem st_body:rows.map (fun r=>(dAt (HP P) r).body)=rows.map fun r=>.stmts (toSs r.fd.line r.fd.names r.fd.body):=by kernel_rfl
theorem st_bind (S:Setting) (v:Nat->Value):rows.map (fun r=>(List.range (r.fd.dflts.length+1)).map (fnBind (HP P) S v r))=rows.map fun r=>(List.range (r.fd.dflts.length+1)).map (fnBound (HP P) v r):=by kernel_rfl
theorem st_cls:crows.all (clsChk (HP P))=true:=by kernel_rfl
theorem st_glb:glbs.all (glbChk (HP P))=true:=by kernel_rfl
theorem st_prim:primNames.all (fun x=>nsIn (HP P) mainGlobals (Str.ofString x)==some none)=true:=by kernel_rfl
theorem st_exc:erows.all (fun r=>CA r.c==r.C&&nsIn (HP P) mainGlobals (Str.ofString (nm r.c))==some (some (.ref r.C))&&excChk (HP P) r.C)=true:=by kernel_rfl
theorem st_sub:erows.all (fun a=>erows.all fun b=>exmOne (HP P) (.ref a.C) (.ref b.C)==some (T.sub a.c b.c))=true:=by kernel_rfl
theorem st_no:noLists (HP P)=true:=by kernel_rfl
theorem st_in:StatIn (HP P):=⟨st_f1 P,st_f2 P,st_f3 P,st_body P,st_bind P,st_cls P,st_glb P,st_prim P,st_exc P,st_sub P⟩
end
theorem fin (pure:∀ (its:List Value) (nums:List Int),nums.length<=63->callN T 41 0 i_law [AV.ref 0] [AObj.frz its (nums.map AV.int)] (fun v H=>v=AV.bool true/\H[0]?=some (AObj.frz its (nums.map AV.int))) fun _ _=>False) :
  PySem.Challenge.rw_xm0850_02.Holds :=
 hd (law_good (f:=i_law) (n:=40) rfl rfl st_no st_in (by kernel_rfl) (by kernel_rfl) (by decide) pure)
end Ab
end
section
namespace Ab
open PySem
section
variable {P:Prop} [Decidable P] {p q:Prop}
theorem ifT (h:P) (hp:p):ifb (decide P) p q:=by rw [decide_eq_true h];exact hp
theorem ifF (h:¬ P) (hp:q):ifb (decide P) p q:=by rw [decide_eq_false h];exact hp
theorem niT (h:P) (hp:q):ifb (!decide P) p q:=by rw [decide_eq_true h];exact hp
theorem niF (h:¬ P) (hp:p):ifb (!decide P) p q:=by rw [decide_eq_false h];exact hp
end
theorem ifX {b c:Bool} {p q:Prop} (h:b=c) (hp:ifb c p q):ifb b p q:=h▸hp
section
variable {d c f:Nat} {vs:List AV} {H H' H'' G:AH} {Q:AV->AH->Prop} {E:Nat->AH->Prop}
theorem enter (fd:FD) (hF:T.fn c f=some fd) (hl:(Nat.ble vs.length fd.np&&Nat.ble fd.np (vs.length + fd.dflts.length))=true) (h:vSs T (callN T d) fd.body ⟨frame0 fd vs,H⟩ (retK Q) fun c st=>st.on fun _ H=>E c H):callN T (d+1) c f vs H Q E:=by
 show optP (T.fn c f) fun fd=>vCall T (callN T d) fd vs H Q E
 rw [hF]
 exact ⟨hl,h⟩
end
inductive Nxt {α:Type} (m:α->Nat) (s:α->St) (I:α->Prop) (n:Nat) (st:St):Prop
 | mk (b:α) (e:st=s b) (l:m b < n) (h:I b)
theorem whl {α:Type} {body:St->(St->Prop)->Prop} (m:α->Nat) (s:α->St) (I:α->Prop) (a:α) (h:I a) (step:∀ a,I a->body (s a) (Nxt m s I (m a))):WhlI body (s a) :=
 ⟨fun n st=>∃ a,n=m a/\st=s a/\I a,m a,⟨a,rfl,rfl,h⟩,fun n st ⟨a,e1,e2,h⟩=>by
  subst e1 e2
  have e:(fun st=>∃ n,n < m a/\∃ b,n=m b/\st=s b/\I b)=Nxt m s I (m a):=funext fun st=>propext ⟨fun ⟨_,l,b,e1,e2,h⟩=>⟨b,e2,e1▸l,h⟩,fun ⟨b,e,l,h⟩=>⟨_,l,b,rfl,e,h⟩⟩
  rw [e]
  exact step a h⟩
inductive Fxt {α:Type} (s:Nat->α->St) (I:Nat->α->Prop) (n:Nat) (st:St):Prop
 | mk (b:α) (e:st=s n b) (h:I n b)
theorem forR {α:Type} {all:List AV} {w:Option Nat} {body:AV->St->(St->Prop)->Prop} {k:St->Prop} (s:Nat->α->St) (I:Nat->α->Prop) (a:α) (h:I 0 a)
  (step:∀ n v a,all[n]?=some v->I n a->stands w all (s n a).H/\body v (s n a) (Fxt s I (n+1))) (fin:∀ a,I all.length a->stands w all (s all.length a).H/\k (s all.length a)):ForI all w body (s 0 a) k :=
 ⟨Fxt s I,⟨a,rfl,h⟩,fun n v st e ⟨b,q,h⟩=>q▸step n v b e h,fun st ⟨b,q,h⟩=>q▸fin b h⟩
structure Upd (S:List Nat) (H H':AH):Prop where
 le:H.length<=H'.length
 at':∀ l o,l∉S->H[l]?=some o->H'[l]?=some o
section
variable {S S':List Nat} {H H' H'' G:AH} {l:Nat} {o:AObj}
theorem Upd.refl:Upd S H H:=⟨Nat.le_refl _,fun _ _ _ h=>h⟩
theorem Upd.app:Upd S H (H++G):=⟨by rw [List.length_append];exact Nat.le_add_right _ _,fun l o _ h=>by rw [List.getElem?_append_left (List.getElem?_eq_some_iff.mp h).1];exact h⟩
theorem Upd.mono (h:Upd S H H') (hs:∀ x∈S,x∈S'):Upd S' H H':=⟨h.1,fun l o hl e=>h.2 l o (fun q=>hl (hs l q)) e⟩
theorem Upd.nil (h:Upd [] H H'):Upd S H H':=h.mono fun _ q=>nomatch q
theorem Upd.trans (h1:Upd S H H') (h2:Upd S H' H''):Upd S H H'':=⟨Nat.le_trans h1.1 h2.1,fun l o hl e=>h2.2 l o hl (h1.2 l o hl e)⟩
theorem Upd.set (h:l∈S):Upd S H (H.set l o):=⟨by rw [List.length_set];exact Nat.le_refl _,fun k o' hk e=>by rw [List.getElem?_set_ne (fun q:l=k=>hk (q▸h))];exact e⟩
theorem Upd.get (h:Upd S H H') (e:H[l]?=some o) (hl:l∉S):H'[l]?=some o:=h.2 l o hl e
theorem Upd.get0 (h:Upd [] H H') (e:H[l]?=some o):H'[l]?=some o:=h.2 l o (fun q=>nomatch q) e
theorem Upd.fresh (h0:Upd S H H') (h:Upd (l::S) H' H'') (hl:H.length<=l):Upd S H H'':=⟨Nat.le_trans h0.1 h.1,fun k o hk e=>h.2 k o (fun q=>(List.mem_cons.mp q).elim (fun q=>Nat.lt_irrefl _ (Nat.lt_of_lt_of_le (q▸(List.getElem?_eq_some_iff.mp e).1) hl)) hk) (h0.2 k o hk e)⟩
theorem getLast':(H++[o])[H.length]?=some o:=by rw [List.getElem?_append_right (Nat.le_refl _),Nat.sub_self];rfl
theorem getSet {o':AObj} (h:H[l]?=some o'):(H.set l o)[l]?=some o:=List.getElem?_set_self (List.getElem?_eq_some_iff.mp h).1
theorem le_new (h:Upd S H H') (e:H'[l]?=none):H.length<=l:=Nat.le_trans h.1 (List.getElem?_eq_none_iff.mp e)
end
end Ab
end
section
namespace Ab
open PySem
theorem and127 (n:Nat):n &&& 127=n % 128:=Nat.and_two_pow_sub_one_eq_mod n 7
theorem or128 {n:Nat} (h:n < 128):n ||| 128=n+128:=by
 have:=Nat.two_pow_add_eq_or_of_lt (i:=7) (b:=n) h 1
 rw [Nat.or_comm];simpa [Nat.add_comm] using this.symm
def enc (n:Nat):List UInt8:=if h:n < 128 then [UInt8.ofNat n] else UInt8.ofNat (n % 128+128)::enc (n / 128)
termination_by n
decreasing_by exact Nat.div_lt_self (Nat.lt_of_lt_of_le (by decide) (Nat.not_lt.mp h)) (by decide)
theorem enc_lt {n:Nat} (h:n < 128):enc n=[UInt8.ofNat n]:=by rw [enc,dif_pos h]
theorem enc_ge {n:Nat} (h:128<=n):enc n=UInt8.ofNat (n % 128+128)::enc (n / 128):=by rw [enc,dif_neg (Nat.not_lt.mpr h)]
theorem enc_len (k:Nat):∀ n:Nat,n < 2 ^ (7 * (k+1))->(enc n).length<=k+1:=by
 induction k with
 | zero=>intro n h;rw [enc_lt h];exact Nat.le_refl _
 | succ k ih =>
  intro n h
  by_cases h1:n < 128
  ·rw [enc_lt h1];exact Nat.le_add_left _ _
  ·rw [enc_ge (Nat.not_lt.mp h1),List.length_cons]
   exact Nat.succ_le_succ (ih (n / 128) ((Nat.div_lt_iff_lt_mul (by decide)).mpr (Nat.pow_add 2 (7 * (k+1)) 7▸h)))
theorem enc_len64 {n:Nat} (h:n < 18446744073709551616):(enc n).length<=10:=enc_len 9 n (Nat.lt_of_lt_of_le h (by decide))
theorem lt256 {k:Nat}:k % 128+128 < 256:=Nat.add_lt_add_right (Nat.mod_lt _ (by decide)) 128
theorem low7 (k:Nat):(k &&& 127) ||| 128=k % 128+128:=by rw [and127,or128 (Nat.mod_lt _ (by decide))]
theorem oct256 {k:Nat}:(k &&& 127) ||| 128 < 256:=low7 k▸lt256
theorem enc_dec {k:Nat} (h:128<=k):(enc (k / 128)).length < (enc k).length:=by rw [enc_ge h];exact Nat.lt_succ_self _
theorem enc_app {k:Nat} (h:128<=k) (p:List UInt8):(p++[UInt8.ofNat ((k &&& 127) ||| 128)])++enc (k / 128)=p++enc k:=by rw [enc_ge h,low7,List.append_assoc];rfl
theorem enc_one {k:Nat} (h:k < 128) (p:List UInt8):p++[UInt8.ofNat k]=p++enc k:=by rw [enc_lt h]
theorem room_app {p q r:List UInt8} (e:p++q=r) (h:r.length<=10):p.length < LIM:=Nat.lt_of_le_of_lt (Nat.le_trans (by rw [<-e,List.length_append];exact Nat.le_add_right _ _) h) (by decide)
section
variable {d:Nat} {H:AH} {Q:AV->AH->Prop} {E:Nat->AH->Prop}
structure WgI (H:AH) (n:Nat) (a:Nat×List UInt8×AH):Prop where
 o:a.2.2[H.length]?=some (.barr a.2.1)
 u:Upd [] H a.2.2
 e:a.2.1++enc a.1=enc n
theorem write_groups_spec {n m:Nat} (hn:n<=m) (hm:m < 18446744073709551616) (hQ:∀ H',Upd [] H H'->Q (.bytes (enc n)) H'):callN T (d+1) 0 i_write_groups [.int (n:Int),.int (m:Int)] H Q E :=
 enter fd_write_groups rfl rfl (ifF (Int.not_lt.mpr (Int.ofNat_le.mpr hn)) ⟨rfl,
  whl (fun a=>(enc a.1).length) (fun a=>⟨[some (.int (a.1:Int)),some (.int (m:Int)),some (.ref H.length)],a.2.2⟩) (WgI H n) ((n,[],H++[AObj.barr []]):Nat×List UInt8×AH) ⟨getLast',.app,rfl⟩ fun a J =>
   have z:=room_app J.e (enc_len64 (Nat.lt_of_le_of_lt hn hm))
   (Nat.lt_or_ge a.1 128).elim (fun h=>ifF (Int.not_le.mpr (Int.ofNat_lt.mpr h)) ⟨.mk _ J.o trivial,Bar.mk _ J.o ⟨⟨Nat.lt_trans h (by decide),z⟩,.inr (Bar.mk _ (getSet J.o) ((enc_one h a.2.1).trans J.e▸hQ _ (J.u.fresh (.set (.head _)) (Nat.le_refl _))))⟩⟩)
    fun h=>ifT (Int.ofNat_le.mpr h) ⟨.mk _ J.o trivial,Bar.mk _ J.o ⟨⟨oct256,z⟩,
     Nxt.mk (a.1 / 128,a.2.1++[UInt8.ofNat ((a.1 &&& 127) ||| 128)],a.2.2.set H.length (.barr (a.2.1++[UInt8.ofNat ((a.1 &&& 127) ||| 128)]))) rfl (enc_dec h) ⟨getSet J.o,J.u.fresh (.set (.head _)) (Nat.le_refl _),(enc_app h a.2.1).trans J.e⟩⟩⟩⟩)
theorem put_varint_spec {n:Nat} (hn:n < 18446744073709551616) (hQ:∀ H',Upd [] H H'->Q (.bytes (enc n)) H'):callN T (d + 2) 0 i_put_varint [.int (n:Int)] H Q E :=
 enter fd_put_varint rfl rfl ((Nat.lt_or_ge n 128).elim
  (fun h=>ifT (Int.ofNat_lt.mpr h) (.inl (Lst.mk _ getLast' ⟨[UInt8.ofNat n],congrArg (fun k:Nat=>[AV.int (k:Int)]) (UInt8.toNat_ofNat_of_lt (Nat.lt_trans h (by decide))).symm,enc_lt h▸hQ _ .app⟩)))
  fun h=>ifF (Int.not_lt.mpr (Int.ofNat_le.mpr h)) ⟨rfl,write_groups_spec (m:=18446744073709551615) (Nat.le_of_lt_succ hn) (by decide) hQ⟩)
theorem put_varint32_spec {n:Nat} (hn:n < 4294967296) (hQ:∀ H',Upd [] H H'->Q (.bytes (enc n)) H'):callN T (d + 2) 0 i_put_varint32 [.int (n:Int)] H Q E :=
 enter fd_put_varint32 rfl rfl ((Nat.lt_or_ge n 128).elim
  (fun h=>ifT (Int.ofNat_lt.mpr h) (.inl (Lst.mk _ getLast' ⟨[UInt8.ofNat n],congrArg (fun k:Nat=>[AV.int (k:Int)]) (UInt8.toNat_ofNat_of_lt (Nat.lt_trans h (by decide))).symm,enc_lt h▸hQ _ .app⟩)))
  fun h=>ifF (Int.not_lt.mpr (Int.ofNat_le.mpr h)) ⟨rfl,write_groups_spec (m:=4294967295) (Nat.le_of_lt_succ hn) (by decide) hQ⟩)
end
end Ab
end
section
namespace Ab
open PySem
theorem ofNat_toNat {n:Nat} (h:n < 256):(UInt8.ofNat n).toNat=n:=UInt8.toNat_ofNat_of_lt h
theorem and255 (n:Nat):n &&& 255=n % 256:=Nat.and_two_pow_sub_one_eq_mod n 8
theorem andM32 (n:Nat):n &&& 4294967295=n % 4294967296:=Nat.and_two_pow_sub_one_eq_mod n 32
theorem orShift {a b i:Nat} (h:a < 2 ^ i):a ||| b * 2 ^ i=a + b * 2 ^ i:=by
 rw [Nat.or_comm,Nat.mul_comm,<-Nat.two_pow_add_eq_or_of_lt h b,Nat.add_comm]
theorem enc_pos (n:Nat):0 < (enc n).length:=(Nat.lt_or_ge n 128).elim (fun h=>enc_lt h▸Nat.one_pos) fun h=>enc_ge h▸Nat.succ_pos _
theorem lo7 {r:Nat} (h:r < 128):(UInt8.ofNat r).toNat=r:=ofNat_toNat (Nat.lt_trans h (by decide))
theorem hi7 {r:Nat}:(UInt8.ofNat (r % 128+128)).toNat=r % 128+128:=ofNat_toNat lt256
theorem lo7lt {r:Nat} (h:r < 128):(UInt8.ofNat r).toNat < 128:=Nat.lt_of_le_of_lt (Nat.le_of_eq (lo7 h)) h
theorem hi7le {r:Nat}:128<=(UInt8.ofNat (r % 128+128)).toNat:=Nat.le_trans (Nat.le_add_left 128 _) (Nat.le_of_eq hi7.symm)
theorem hi7' (r:Nat):(r % 128+128) % 128=r % 128:=by rw [Nat.add_mod_right,Nat.mod_mod]
structure Rd (data r:List UInt8) (a:Nat) (w:List UInt8):Prop where
 le:a<=data.length
 e:data.drop a++r=w
inductive RdC (data r:List UInt8) (a:Nat) (v w:List UInt8):Prop
 | got (l:a + v.length<=data.length) (at':∀ (j:Nat) (x:UInt8),v[j]?=some x->data[a + j]?=some x) (c:cutL data a (a + v.length)=v) (n:Rd data r (a + v.length) w)
 | out (l:data.length < a + v.length) (z:r≠[])
section
variable {data r w v:List UInt8} {a:Nat} {x:UInt8}
theorem Rd.read (h:Rd data r a (v++w)):RdC data r a v w:=by
 have e:=h.e
 have hl:(data.drop a).length=data.length - a:=List.length_drop
 rcases Nat.lt_or_ge data.length (a + v.length) with l|l
 ·refine .out l fun q=>?_
  rw [q,List.append_nil] at e
  rw [e,List.length_append] at hl
  exact absurd (Nat.le_trans (Nat.add_le_add_left (Nat.le_trans (Nat.le_add_right _ _) (Nat.le_of_eq hl)) a) (Nat.le_of_eq (Nat.add_sub_cancel' h.le))) (Nat.not_le.mpr l)
 ·have l2:v.length<=(data.drop a).length:=hl▸Nat.le_sub_of_add_le (Nat.add_comm a _▸l)
  have t:(data.drop a).take v.length=v:=by
   have:=congrArg (List.take v.length) e
   rw [List.take_append_of_le_length l2,List.take_left] at this
   exact this
  have c:cutL data a (a + v.length)=v:=by rw [cutL,List.drop_take,Nat.add_sub_cancel_left,t]
  refine .got l (fun j x q=>?_) c ⟨l,?_⟩
  ·rw [<-List.getElem?_drop,<-List.getElem?_take_of_lt (List.getElem?_eq_some_iff.mp q).1,t]
   exact q
  ·have:=congrArg (List.drop v.length) e
   rw [List.drop_append_of_le_length l2,List.drop_left,List.drop_drop] at this
   exact this
theorem Rd.lo {n:Nat} (h:Rd data r a (enc n++v)) (l:n < 128):RdC data r a [UInt8.ofNat n] v:=Rd.read ⟨h.le,h.e.trans (enc_lt l▸rfl)⟩
theorem Rd.hi {n:Nat} (h:Rd data r a (enc n++v)) (l:128<=n):RdC data r a [UInt8.ofNat (n % 128+128)] (enc (n / 128)++v):=Rd.read ⟨h.le,h.e.trans (enc_ge l▸rfl)⟩
end
theorem fmtN {n:Nat} {H:AH} (h:n<=4294967296):fmtP (.int (n:Int)) H:=⟨Int.lt_of_lt_of_le (by decide) (Int.natCast_nonneg n),Int.lt_of_le_of_lt (Int.ofNat_le.mpr h) (by decide)⟩
theorem fmtS {a n:Nat} {H:AH} (h:a<=n) (hn:n<=100000):fmtP (.int ((n:Int) - (a:Int))) H:=by
 rw [<-Int.ofNat_sub h]
 exact fmtN (Nat.le_trans (Nat.sub_le _ _) (Nat.le_trans hn (by decide)))
def fix (n:Nat):List UInt8:=[UInt8.ofNat (n % 256),UInt8.ofNat (n / 256 % 256),UInt8.ofNat (n / 65536 % 256),UInt8.ofNat (n / 16777216)]
theorem fix_ints {n:Nat} (h:n < 4294967296):[AV.int ((n &&& 255:Nat):Int),.int ((n / 2 ^ 8 &&& 255:Nat):Int),.int ((n / 2 ^ 16 &&& 255:Nat):Int),.int ((n / 2 ^ 24:Nat):Int)]=octInts (fix n):=by
 have l:∀ k,k % 256 < 256:=fun k=>Nat.mod_lt _ (by decide)
 have h4:n / 16777216 < 256:=Nat.div_lt_of_lt_mul h
 have e:octInts (fix n)=[AV.int ((UInt8.ofNat (n % 256)).toNat:Int),.int ((UInt8.ofNat (n / 256 % 256)).toNat:Int),.int ((UInt8.ofNat (n / 65536 % 256)).toNat:Int),.int ((UInt8.ofNat (n / 16777216)).toNat:Int)]:=rfl
 rw [e,ofNat_toNat (l _),ofNat_toNat (l _),ofNat_toNat (l _),ofNat_toNat h4,and255,and255,and255]
theorem enc_len32 {n:Nat} (h:n < 4294967296):(enc n).length<=5:=enc_len 4 n (Nat.lt_of_lt_of_le h (by decide))
theorem u8s (x:UInt8):x.toNat < 18446744073709551616:=Nat.lt_trans x.toNat_lt (by decide)
theorem orMod (n i:Nat):n % 2 ^ i ||| n / 2 ^ i % 256 * 2 ^ i=n % 2 ^ (i + 8):=by
 rw [orShift (Nat.mod_lt _ (Nat.two_pow_pos i)),Nat.pow_add,Nat.mod_mul,Nat.mul_comm (2 ^ i)]
theorem fix_val {n:Nat} (hn:n < 4294967296):((UInt8.ofNat (n % 256)).toNat ||| (UInt8.ofNat (n / 256 % 256)).toNat * 2 ^ 8 ||| (UInt8.ofNat (n / 65536 % 256)).toNat * 2 ^ 16 ||| (UInt8.ofNat (n / 16777216)).toNat * 2 ^ 24)=n:=by
 have l:∀ k,k % 256 < 256:=fun k=>Nat.mod_lt _ (by decide)
 rw [ofNat_toNat (l _),ofNat_toNat (l _),ofNat_toNat (l _),ofNat_toNat (Nat.div_lt_of_lt_mul hn)]
 exact ((congrArg (fun k=>k ||| n / 65536 % 256 * 2 ^ 16 ||| n / 16777216 * 2 ^ 24) (orMod n 8)).trans (congrArg (fun k=>k ||| n / 16777216 * 2 ^ 24) (orMod n 16))).trans ((orShift (Nat.mod_lt _ (by decide))).trans (Nat.mod_add_div' n 16777216))
section
variable {d:Nat} {H:AH} {Q:AV->AH->Prop} {E:Nat->AH->Prop}
theorem put_fixed32_spec {n:Nat} (hn:n < 4294967296) (hQ:∀ H',Upd [] H H'->Q (.bytes (fix n)) H'):callN T (d+1) 0 i_put_fixed32 [.int (n:Int)] H Q E:=by
 refine enter fd_put_fixed32 rfl rfl (ifF (Int.not_lt.mpr (Int.ofNat_le.mpr (Nat.le_of_lt_succ hn))) (.inl (Lst.mk _ getLast' ⟨fix n,fix_ints hn,hQ _ .app⟩)))
structure RgA where
 acc:Nat
 r:Nat
 t:Option AV
 o:Option AV
structure RgI (data rr rest:List UInt8) (n a j:Nat) (b:RgA):Prop where
 e:Rd data rr (a + j) (enc b.r++rest)
 v:n=b.acc + b.r * 2 ^ (7 * j)
 l:b.acc < 2 ^ (7 * j)
 z:(enc n).length=j + (enc b.r).length
theorem low_or {acc r j:Nat} (x:Nat) (h:acc < 2 ^ (7 * j)) (e:x % 128=r):acc ||| ((x &&& 127) * 2 ^ (7 * j))=acc + r * 2 ^ (7 * j):=by rw [and127,e,orShift h]
theorem pow7 (j:Nat):2 ^ (7 * (j+1))=2 ^ (7 * j) * 128:=Nat.pow_add 2 (7 * j) 7
theorem rg_val {acc r j:Nat}:acc + r % 128 * 2 ^ (7 * j) + r / 128 * 2 ^ (7 * (j+1))=acc + r * 2 ^ (7 * j):=by
 rw [pow7,Nat.add_assoc,Nat.mul_comm (2 ^ (7 * j)) 128,<-Nat.mul_assoc,<-Nat.add_mul,Nat.mod_add_div' r 128]
theorem rg_lt {acc r j:Nat} (h:acc < 2 ^ (7 * j)):acc + r % 128 * 2 ^ (7 * j) < 2 ^ (7 * (j+1)):=by
 rw [pow7,Nat.mul_comm (r % 128)]
 exact Nat.lt_of_lt_of_le (Nat.add_lt_add_right h _) (by rw [Nat.add_comm,<-Nat.mul_succ];exact Nat.mul_le_mul_left _ (Nat.mod_lt _ (by decide)))
theorem RgI.small {data rr rest:List UInt8} {n a j o:Nat} {b:RgA} (J:RgI data rr rest n a j b) (ho:(enc n).length<=o) (ho2:o<=10):7 * j<=128 :=
 Nat.le_trans (Nat.mul_le_mul_left 7 (Nat.le_trans (Nat.le_add_right _ _) (J.z▸Nat.le_trans ho ho2))) (by decide)
theorem and127_lt (x:Nat):x &&& 127 < 18446744073709551616:=and127 x▸Nat.lt_trans (Nat.mod_lt _ (by decide)) (by decide)
section
variable {n a:Nat} {data rr rest:List UInt8} (hE:rr≠[]->E i_ShortOctets H)
include hE
theorem read_groups_spec {m o:Nat} (hn:n<=m) (ho:(enc n).length<=o) (ho2:o<=10) (hp:Rd data rr a (enc n++rest))
  (hQ:Rd data rr (a + (enc n).length) rest->Q (.tup [.int (n:Int),.int ((a + (enc n).length:Nat):Int)]) H) :
  callN T (d+1) 0 i_read_groups [.bytes data,.int (a:Int),.int (o:Int),.int (m:Int)] H Q E :=
 have fin:∀ u w:Nat,u=n->w=a + (enc n).length->Rd data rr w rest->Q (.tup [.int (u:Int),.int (w:Int)]) H:=fun u w e1 e2 r=>e1▸e2▸hQ (e2▸r)
 enter fd_read_groups rfl rfl ⟨Nat.le_trans ho2 (by decide),
  forR (fun j (b:RgA)=>⟨[some (.bytes data),some (.int ((a + j:Nat):Int)),some (.int (o:Int)),some (.int (m:Int)),some (.int (b.acc:Int)),some (.int ((7 * j:Nat):Int)),b.t,b.o],H⟩) (RgI data rr rest n a) ⟨0,n,none,none⟩
   ⟨hp,by rw [Nat.mul_zero,Nat.pow_zero,Nat.mul_one,Nat.zero_add],Nat.one_pos,(Nat.zero_add _).symm⟩
   (fun j v b e J=>⟨trivial,(Nat.lt_or_ge b.r 128).elim
    (fun h =>
     have q:=(low_or (UInt8.ofNat b.r).toNat J.l ((congrArg (· % 128) (lo7 h)).trans (Nat.mod_eq_of_lt h))).trans J.v.symm
     match J.e.lo h with
     | .got l g _ r=>ifF (Int.not_le.mpr (Int.ofNat_lt.mpr l)) (At.mk _ (g 0 _ rfl) ⟨and127_lt _,J.small ho ho2,
      ifT (Int.ofNat_lt.mpr (lo7lt h)) (ifF (Int.not_lt.mpr (Int.ofNat_le.mpr (q▸hn))) (fin _ _ q (by rw [J.z,enc_lt h];rfl) r))⟩)
     | .out l z=>ifT (Int.ofNat_le.mpr (Nat.le_of_lt_succ l)) ⟨rfl,hE z⟩)
    fun h =>
     have q:=low_or (UInt8.ofNat (b.r % 128+128)).toNat J.l ((congrArg (· % 128) hi7).trans (hi7' _))
     match J.e.hi h with
     | .got l g _ r=>ifF (Int.not_le.mpr (Int.ofNat_lt.mpr l)) (At.mk _ (g 0 _ rfl) ⟨and127_lt _,J.small ho ho2,
      ifF (Int.not_lt.mpr (Int.ofNat_le.mpr hi7le)) (Fxt.mk ⟨_,b.r / 128,_,_⟩ rfl
       ⟨r,q▸(J.v.trans rg_val.symm),q▸rg_lt J.l,by rw [J.z,enc_ge h,List.length_cons,Nat.add_right_comm,Nat.add_assoc]⟩)⟩)
     | .out l z=>ifT (Int.ofNat_le.mpr (Nat.le_of_lt_succ l)) ⟨rfl,hE z⟩⟩)
   fun b J=>absurd (Nat.le_trans (Nat.add_lt_add_left (enc_pos b.r) _) (Nat.le_trans (Nat.le_of_eq J.z.symm) ho)) (by rw [rngItems,List.length_map,List.length_range];exact Nat.lt_irrefl _)⟩
theorem read_varint_spec (hn:n < 18446744073709551616) (hp:Rd data rr a (enc n++rest)) (hQ:Rd data rr (a + (enc n).length) rest->Q (.tup [.int (n:Int),.int ((a + (enc n).length:Nat):Int)]) H) :
  callN T (d + 2) 0 i_read_varint [.bytes data,.int (a:Int)] H Q E :=
 have slow:=read_groups_spec (d:=d) hE (Nat.le_of_lt_succ hn) (enc_len64 hn) (by decide) hp hQ
 enter fd_read_varint rfl rfl ((Nat.lt_or_ge n 128).elim
  (fun h=>match hp.lo h with
   | .got l g _ r =>
    have q:Q (.tup [.int ((UInt8.ofNat n).toNat:Int),.int ((a+1:Nat):Int)]) H:=by
     rw [lo7 h]
     rw [enc_lt h] at hQ
     exact hQ r
    ifT (Int.ofNat_lt.mpr l) (At.mk _ (g 0 _ rfl) (ifT (Int.ofNat_lt.mpr (lo7lt h)) (At.mk _ (g 0 _ rfl) q)))
   | .out l z=>ifF (Int.not_lt.mpr (Int.ofNat_le.mpr (Nat.le_of_lt_succ l))) (ifF (Int.not_lt.mpr (Int.ofNat_le.mpr (Nat.le_of_lt_succ l))) ⟨rfl,slow⟩))
  fun h=>match hp.hi h with
   | .got l g _ r=>ifT (Int.ofNat_lt.mpr l) (At.mk _ (g 0 _ rfl) (ifF (Int.not_lt.mpr (Int.ofNat_le.mpr hi7le)) ⟨rfl,slow⟩))
   | .out l z=>ifF (Int.not_lt.mpr (Int.ofNat_le.mpr (Nat.le_of_lt_succ l))) (ifF (Int.not_lt.mpr (Int.ofNat_le.mpr (Nat.le_of_lt_succ l))) ⟨rfl,slow⟩))
theorem read_varint32_spec (hn:n < 4294967296) (hp:Rd data rr a (enc n++rest)) (hQ:Rd data rr (a + (enc n).length) rest->Q (.tup [.int (n:Int),.int ((a + (enc n).length:Nat):Int)]) H) :
  callN T (d + 2) 0 i_read_varint32 [.bytes data,.int (a:Int)] H Q E :=
 have slow:=read_groups_spec (d:=d) hE (Nat.le_of_lt_succ hn) (enc_len32 hn) (by decide) hp hQ
 enter fd_read_varint32 rfl rfl ((Nat.lt_or_ge n 128).elim
  (fun h=>match hp.lo h with
   | .got l g _ r =>
    have q:Q (.tup [.int ((UInt8.ofNat n).toNat:Int),.int ((a+1:Nat):Int)]) H:=by
     rw [lo7 h]
     rw [enc_lt h] at hQ
     exact hQ r
    ifT (Int.ofNat_lt.mpr l) (At.mk _ (g 0 _ rfl) (ifT (Int.ofNat_lt.mpr (lo7lt h)) (At.mk _ (g 0 _ rfl) q)))
   | .out l z=>ifF (Int.not_lt.mpr (Int.ofNat_le.mpr (Nat.le_of_lt_succ l))) (ifF (Int.not_lt.mpr (Int.ofNat_le.mpr (Nat.le_of_lt_succ l))) ⟨rfl,slow⟩))
  fun h=>match hp.hi h with
   | .got l g _ r=>ifT (Int.ofNat_lt.mpr l) (At.mk _ (g 0 _ rfl) (ifF (Int.not_lt.mpr (Int.ofNat_le.mpr hi7le)) ⟨rfl,slow⟩))
   | .out l z=>ifF (Int.not_lt.mpr (Int.ofNat_le.mpr (Nat.le_of_lt_succ l))) (ifF (Int.not_lt.mpr (Int.ofNat_le.mpr (Nat.le_of_lt_succ l))) ⟨rfl,slow⟩))
theorem read_fixed32_spec (hn:n < 4294967296) (hd:data.length<=100000) (hp:Rd data rr a (fix n++rest)) (hQ:Rd data rr (a + 4) rest->Q (.int (n:Int)) H) :
  callN T (d+1) 0 i_read_fixed32 [.bytes data,.int (a:Int)] H Q E :=
 have q:∀ {r} v,Rd data rr (a + 4) r->r=rest->v=n->Q (.int (v:Int)) H:=fun v r e1 e=>e▸hQ (e1▸r)
 enter fd_read_fixed32 rfl rfl (match hp.read with
  | .got l g _ r=>ifF (Int.not_lt.mpr (Int.ofNat_le.mpr l)) (At.mk _ (g 0 _ rfl) (At.mk _ (g 1 _ rfl) ⟨u8s _,by decide,At.mk _ (g 2 _ rfl) ⟨u8s _,by decide,At.mk _ (g 3 _ rfl) ⟨u8s _,by decide,q _ r rfl (fix_val hn)⟩⟩⟩))
  | .out l z=>ifT (Int.ofNat_lt.mpr l) ⟨rfl,fmtN (Nat.le_trans (Nat.le_trans hp.le hd) (by decide)),hE z⟩)
theorem read_lengthed_spec {b:List UInt8} (hn:b.length < 4294967296) (hd:data.length<=100000) (hp:Rd data rr a (enc b.length++(b++rest)))
  (hQ:Rd data rr (a + (enc b.length++b).length) rest->Q (.tup [.bytes b,.int ((a + (enc b.length++b).length:Nat):Int)]) H) :
  callN T (d + 3) 0 i_read_lengthed [.bytes data,.int (a:Int)] H Q E :=
 have hb:∀ {k},k<=data.length->k < 1152921504606846976:=fun h=>Nat.lt_of_le_of_lt (Nat.le_trans h hd) (by decide)
 have q:∀ v k,v=b->k=a + (enc b.length++b).length->Rd data rr k rest->Q (.tup [.bytes v,.int (k:Int)]) H:=fun v k e1 e2 r=>e1▸e2▸hQ (e2▸r)
 enter fd_read_lengthed rfl rfl ⟨rfl,read_varint32_spec hE hn hp fun hp2=>⟨rfl,match hp2.read with
  | .got l _ c r=>ifF (Int.not_lt.mpr (Int.ofNat_le.mpr l)) ⟨hb hp2.le,hb l,q _ _ c (by rw [List.length_append,Nat.add_assoc]) r⟩
  | .out l z=>ifT (Int.ofNat_lt.mpr l) ⟨rfl,fmtN (Nat.le_trans (Nat.le_of_lt hn) (by decide)),fmtS hp2.le hd,hE z⟩⟩⟩
end
def chk (b:List UInt8):Nat:=(b.map (·.toNat)).sum * 251 + b.length * 65537 + 7
theorem sum_cast:∀ b:List UInt8,(b.map fun x=>(x.toNat:Int)).sum=(((b.map (·.toNat)).sum:Nat):Int)
 | []=>rfl
 | x::r=>congrArg ((x.toNat:Int) + ·) (sum_cast r)
theorem sum_le_len:∀ b:List UInt8,(b.map (·.toNat)).sum<=255 * b.length
 | []=>Nat.le_refl _
 | x::r=>by
  rw [List.map_cons,List.sum_cons,List.length_cons,Nat.mul_succ,Nat.add_comm]
  exact Nat.add_le_add (sum_le_len r) (Nat.le_of_lt_succ x.toNat_lt)
theorem chk_lt {b:List UInt8} (h:b.length<=200):chk b < 4294967296 :=
 Nat.lt_of_le_of_lt (Nat.add_le_add_right (Nat.add_le_add (Nat.mul_le_mul_right _ (Nat.le_trans (sum_le_len b) (Nat.mul_le_mul_left _ h))) (Nat.mul_le_mul_right _ h)) _) (by decide)
theorem bigN {n:Nat} (h:n < 18446744073709551616):-BIG < (n:Int)/\(n:Int) < BIG:=⟨Int.lt_of_lt_of_le (by decide:-BIG < 0) (Int.natCast_nonneg n),Int.ofNat_lt.mpr h⟩
theorem big_len {b:List UInt8} (h:b.length<=200):-BIG < (b.length:Int)/\(b.length:Int) < BIG:=bigN (Nat.lt_of_le_of_lt h (by decide))
theorem big_sum {b:List UInt8} (h:b.length<=200):-BIG < (b.map fun x=>(x.toNat:Int)).sum/\(b.map fun x=>(x.toNat:Int)).sum < BIG :=
 sum_cast b▸bigN (Nat.lt_of_le_of_lt (Nat.le_trans (sum_le_len b) (Nat.mul_le_mul_left _ h)) (by decide))
theorem checksum_spec {b:List UInt8} (h:b.length<=200) (hQ:Q (.int (chk b:Int)) H):callN T (d+1) 0 i_checksum [.int 2,.bytes b] H Q E :=
 have q:∀ v:Nat,v=chk b->Q (.int (v:Int)) H:=fun v e=>e▸hQ
 enter fd_checksum rfl rfl ⟨big_sum h,by decide,big_len h,by decide,Nt.mk (a:=.int (_ * 251 + _ * 65537 + 7)) (chk b) (congrArg (fun i:Int=>AV.int (i * 251 + (b.length:Int) * 65537 + 7)) (sum_cast b)) (q _ ((andM32 _).trans (Nat.mod_eq_of_lt (chk_lt h))))⟩
end
end Ab
end
section
namespace Ab
open PySem
theorem mth {H:AH} {l m c:Nat} {fs:List (Nat×AV)} {K:Nat->List (Nat×AV)->Prop} (e:H[l]?=some (.inst c fs)) (hc:((T.fn c m).isSome&&!Nat.beq c 0&&(fget m fs).isNone)=true) (h:K c fs) :
  Ins H l fun c fs=>(T.fn c m).isSome=true/\c≠0/\fget m fs=none/\K c fs:=by
 have h1:=(Bool.and_eq_true _ _).mp hc
 have h2:=(Bool.and_eq_true _ _).mp h1.1
 exact ⟨c,fs,e,h2.1,(fun q=>by rw [q] at h2;exact nomatch h2.2),Option.isNone_iff_eq_none.mp h1.2,h⟩
theorem lt64 {n:Nat} (h:Nat.blt n 64=true):n < 64:=Nat.le_of_ble_eq_true h
theorem att {H:AH} {l a c:Nat} {fs:List (Nat×AV)} {v:AV} {K:AV->Prop} (e:H[l]?=some (.inst c fs)) (hf:T.field c a=true) (hg:fget a fs=some v) (h:K v):Ins H l fun c fs=>T.field c a=true/\optP (fget a fs) K :=
 ⟨c,fs,e,hf,hg▸h⟩
theorem sta {H:AH} {l a c:Nat} {fs:List (Nat×AV)} {K:Nat->List (Nat×AV)->Prop} (e:H[l]?=some (.inst c fs)) (hf:(T.field c a&&Nat.blt fs.length 64)=true) (h:K c fs):Ins H l fun c fs=>T.field c a=true/\fs.length < 64/\K c fs :=
 have h2:=(Bool.and_eq_true _ _).mp hf
 ⟨c,fs,e,h2.1,lt64 h2.2,h⟩
noncomputable abbrev cur (data:List UInt8) (a:Nat):AObj:=.inst i_Cursor [(i_data,.bytes data),(i_at,.int (a:Int))]
noncomputable abbrev snk (p:Nat):AObj:=.inst i_Sink [(i_parts,.ref p)]
structure Crs (data r:List UInt8) (c:Nat) (B:AH) (w:List UInt8) (H:AH):Prop where
 u:Upd [c] B H
 at':∃ a,H[c]?=some (cur data a)/\Rd data r a w
 le:data.length<=100000
structure Snk (t:List UInt8) (H0:AH) (p:Nat) (b w:List UInt8) (H:AH):Prop where
 u:Upd [] H0 H
 lt:H0.length < p
 hs:H[H0.length]?=some (snk p)
 hb:H[p]?=some (.barr b)
 e:b++w=t
 le:t.length<=100000
section
variable {d:Nat} {H B:AH} {Q:AV->AH->Prop} {E:Nat->AH->Prop}
theorem cursor_init {data r w:List UInt8} (hd:data.length<=100000) (hw:data++r=w) (hQ:∀ H',Crs data r H.length (H++[.inst i_Cursor []]) w H'->Q .none H'):callN T (d+1) i_Cursor 1 [.ref H.length,.bytes data] (H++[.inst i_Cursor []]) Q E :=
 enter fd_Cursor_init rfl rfl (sta getLast' rfl (sta (getSet getLast') rfl (hQ _ ⟨.trans (.set (.head _)) (.set (.head _)),⟨0,getSet (getSet getLast'),Nat.zero_le _,hw⟩,hd⟩)))
section
variable {c n:Nat} {data r w:List UInt8}
theorem Crs.adv {w:List UInt8} {a a':Nat} {v:List UInt8} (J:Crs data r c B v H) (hc:H[c]?=some (cur data a)) (hp:Rd data r a' w):Crs data r c B w (H.set c (cur data a')):=⟨J.u.trans (.set (.head _)),⟨_,getSet hc,hp⟩,J.le⟩
variable (hE:r≠[]->E i_ShortOctets H)
include hE
theorem cursor_varint (J:Crs data r c B (enc n++w) H) (hn:n < 18446744073709551616) (hQ:∀ H',Crs data r c B w H'->Q (.int (n:Int)) H') :
  callN T (d + 3) i_Cursor i_varint [.ref c] H Q E :=
 Exists.elim J.at' fun a ⟨hc,hp⟩ =>
 enter fd_Cursor_varint rfl rfl (att hc rfl rfl (att hc rfl rfl ((Nat.lt_or_ge n 128).elim
  (fun h=>match hp.lo h with
   | .got l g _ r =>
    have q:∀ v:Nat,v=n->Q (.int (v:Int)) (H.set c (cur data (a+1))):=fun v e=>e▸hQ _ (J.adv hc r)
    ifT (Int.ofNat_lt.mpr l) (att hc rfl rfl (At.mk _ (g 0 _ rfl) (ifT (Int.ofNat_lt.mpr (lo7lt h)) (sta hc rfl (att (getSet hc) rfl rfl (At.mk _ (g 0 _ rfl) (q _ (lo7 h))))))))
   | .out l z=>ifF (Int.not_lt.mpr (Int.ofNat_le.mpr (Nat.le_of_lt_succ l))) (ifF (Int.not_lt.mpr (Int.ofNat_le.mpr (Nat.le_of_lt_succ l))) ⟨rfl,att hc rfl rfl (read_varint_spec hE hn hp fun r=>⟨rfl,sta hc rfl (hQ _ (J.adv hc r))⟩)⟩))
  fun h=>match hp.hi h with
   | .got l g _ r=>ifT (Int.ofNat_lt.mpr l) (att hc rfl rfl (At.mk _ (g 0 _ rfl) (ifF (Int.not_lt.mpr (Int.ofNat_le.mpr hi7le)) ⟨rfl,att hc rfl rfl (read_varint_spec hE hn hp fun r=>⟨rfl,sta hc rfl (hQ _ (J.adv hc r))⟩)⟩)))
   | .out l z=>ifF (Int.not_lt.mpr (Int.ofNat_le.mpr (Nat.le_of_lt_succ l))) (ifF (Int.not_lt.mpr (Int.ofNat_le.mpr (Nat.le_of_lt_succ l))) ⟨rfl,att hc rfl rfl (read_varint_spec hE hn hp fun r=>⟨rfl,sta hc rfl (hQ _ (J.adv hc r))⟩)⟩))))
theorem cursor_fixed32 (J:Crs data r c B (fix n++w) H) (hn:n < 4294967296) (hQ:∀ H',Crs data r c B w H'->Q (.int (n:Int)) H') :
  callN T (d + 2) i_Cursor i_fixed32 [.ref c] H Q E :=
 Exists.elim J.at' fun a ⟨hc,hp⟩=>enter fd_Cursor_fixed32 rfl rfl ⟨rfl,att hc rfl rfl (att hc rfl rfl (read_fixed32_spec hE hn J.le hp fun r=>att hc rfl rfl (sta hc rfl (hQ _ (J.adv hc r)))))⟩
theorem cursor_lengthed {b:List UInt8} (J:Crs data r c B ((enc b.length++b)++w) H) (hn:b.length < 4294967296) (hQ:∀ H',Crs data r c B w H'->Q (.bytes b) H') :
  callN T (d + 4) i_Cursor i_lengthed [.ref c] H Q E :=
 Exists.elim J.at' fun a ⟨hc,hp⟩=>enter fd_Cursor_lengthed rfl rfl ⟨rfl,att hc rfl rfl (att hc rfl rfl (read_lengthed_spec hE hn J.le (List.append_assoc _ b w▸hp) fun r=>⟨rfl,sta hc rfl (hQ _ (J.adv hc r))⟩))⟩
end
theorem cursor_left {c a:Nat} {data:List UInt8} (hc:H[c]?=some (cur data a)) (hQ:Q (.int ((data.length:Int) - (a:Int))) H):callN T (d+1) i_Cursor i_left [.ref c] H Q E :=
 enter fd_Cursor_left rfl rfl (att hc rfl rfl (att hc rfl rfl hQ))
theorem cursor_done {c:Nat} {data r w:List UInt8} (J:Crs data r c B w H) (hx:r=[]\/w=[]) (hQ:r=[]->w=[]->Q .none H) (hC:w≠[]->E i_Corrupt H):callN T (d + 2) i_Cursor i_done [.ref c] H Q E :=
 Exists.elim J.at' fun a ⟨hc,hp⟩=>enter fd_Cursor_done rfl rfl (att hc rfl rfl (att hc rfl rfl (by
  have e:=hp.e
  rcases Nat.lt_or_ge a data.length with l|l
  ·refine ifT (Int.ofNat_lt.mpr l) ⟨rfl,mth hc rfl ?_⟩
   refine cursor_left hc ⟨fmtS hp.le J.le,hC fun q=>?_⟩
   rw [q] at e
   have:=congrArg List.length (List.append_eq_nil_iff.mp e).1
   rw [List.length_drop] at this
   exact Nat.ne_of_gt (Nat.sub_pos_of_lt l) this
  ·refine ifF (Int.not_lt.mpr (Int.ofNat_le.mpr l)) ?_
   rw [List.drop_eq_nil_of_le l,List.nil_append] at e
   subst e
   have z:r=[]:=hx.elim id id
   exact hQ z z)))
variable {t b w:List UInt8} {H0:AH} {p n:Nat}
theorem sink_init (ht:t.length<=100000) (hQ:∀ H' p,Snk t H p [] t H'->Q .none H'):callN T (d+1) i_Sink 1 [.ref H.length] (H++[.inst i_Sink []]) Q E :=
 have l:H.length < (H++[AObj.inst i_Sink []]).length:=List.length_append▸Nat.lt_succ_self _
 have e:=getLast' (H:=H) (o:=.inst i_Sink [])
 have e2:=Upd.get0 (H':=H++[AObj.inst i_Sink []]++[AObj.barr []]) .app e
 enter fd_Sink_init rfl rfl ⟨rfl,sta e2 rfl (hQ _ _ ⟨Upd.fresh (.trans .app .app) (.set (.head _)) (Nat.le_refl _),l,getSet e2,by rw [List.getElem?_set_ne (Nat.ne_of_lt l)];exact getLast',rfl,ht⟩)⟩
theorem Snk.room {v:List UInt8} (J:Snk t H0 p b (v++w) H):b.length + v.length<=100000:=Nat.le_trans (by
 rw [<-J.e,List.length_append,List.length_append,<-Nat.add_assoc]
 exact Nat.le_add_right _ _) J.le
theorem Snk.adv {v:List UInt8} {H':AH} (J:Snk t H0 p b (v++w) H) (u:Upd [] H H'):Snk t H0 p (b++v) w (H'.set p (.barr (b++v))) :=
 ⟨(J.u.trans u).fresh (.set (.head _)) (Nat.le_of_lt J.lt),J.lt,by rw [List.getElem?_set_ne (Nat.ne_of_gt J.lt)];exact u.get0 J.hs,getSet (u.get0 J.hb),by rw [List.append_assoc];exact J.e,J.le⟩
theorem Snk.cast {w':List UInt8} (J:Snk t H0 p b w H) (e:w=w'):Snk t H0 p b w' H:=e▸J
theorem sink_varint (J:Snk t H0 p b (enc n++w) H) (hn:n < 18446744073709551616) (hQ:∀ H',Snk t H0 p (b++enc n) w H'->Q .none H'):callN T (d + 3) i_Sink i_varint [.ref H0.length,.int (n:Int)] H Q E :=
 have l:=J.room
 enter fd_Sink_varint rfl rfl ((Nat.lt_or_ge n 128).elim
  (fun h=>ifT (Int.ofNat_lt.mpr h) (att J.hs rfl rfl ⟨Bar.mk _ J.hb trivial,Bar.mk _ J.hb ⟨⟨Nat.lt_trans h (by decide),Nat.lt_of_le_of_lt (Nat.le_trans (Nat.le_add_right _ _) l) (by decide)⟩,enc_lt h▸hQ _ (J.adv .refl)⟩⟩))
  fun h=>ifF (Int.not_lt.mpr (Int.ofNat_le.mpr h)) (att J.hs rfl rfl ⟨Bar.mk _ J.hb trivial,rfl,put_varint_spec hn fun H1 u=>Bar.mk _ (u.get0 J.hb) ⟨Nat.le_trans l (by decide),hQ _ (J.adv u)⟩⟩))
theorem sink_fixed32 (J:Snk t H0 p b (fix n++w) H) (hn:n < 4294967296) (hQ:∀ H',Snk t H0 p (b++fix n) w H'->Q .none H'):callN T (d + 2) i_Sink i_fixed32 [.ref H0.length,.int (n:Int)] H Q E :=
 enter fd_Sink_fixed32 rfl rfl (att J.hs rfl rfl ⟨Bar.mk _ J.hb trivial,rfl,put_fixed32_spec hn fun H1 u=>Bar.mk _ (u.get0 J.hb) ⟨Nat.le_trans J.room (by decide),hQ _ (J.adv u)⟩⟩)
theorem sink_lengthed {x:List UInt8} (J:Snk t H0 p b ((enc x.length++x)++w) H) (hn:x.length < 4294967296) (hQ:∀ H',Snk t H0 p (b++enc x.length++x) w H'->Q .none H'):callN T (d + 3) i_Sink i_lengthed [.ref H0.length,.bytes x] H Q E :=
 have J:=J.cast (List.append_assoc _ x w)
 enter fd_Sink_lengthed rfl rfl (att J.hs rfl rfl ⟨Bar.mk _ J.hb trivial,rfl,put_varint32_spec hn fun H1 u=>Bar.mk _ (u.get0 J.hb) ⟨Nat.le_trans J.room (by decide),
  have J2:=J.adv u
  att J2.hs rfl rfl ⟨Bar.mk _ J2.hb trivial,Bar.mk _ J2.hb ⟨Nat.le_trans J2.room (by decide),hQ _ (J2.adv .refl)⟩⟩⟩⟩)
theorem sink_done (J:Snk t H0 p b [] H) (hQ:Q (.bytes t) H):callN T (d+1) i_Sink i_done [.ref H0.length] H Q E :=
 enter fd_Sink_done rfl rfl (att J.hs rfl rfl (.inr (Bar.mk _ J.hb ((List.append_nil b).symm.trans J.e▸hQ))))
end
end Ab
end
section
namespace Ab
open PySem
section
variable {α β:Type} {body:AV->St->(St->Prop)->Prop} {k:St->Prop} (s:Nat->α->St) (I:Nat->α->Prop) (a:α)
theorem forL {l:Nat} {f:β->AV} {xs:List β} (h:I 0 a) (st:∀ n a,I n a->(s n a).H[l]?=some (.list (xs.map f))) (step:∀ n x a,xs[n]?=some x->I n a->body (f x) (s n a) (Fxt s I (n+1)))
  (fin:∀ a,I xs.length a->k (s xs.length a)):ForI (xs.map f) (some l) body (s 0 a) k :=
 forR s I a h (fun n v a e J=>⟨st n a J,by
  rw [List.getElem?_map] at e
  obtain ⟨x,hx,rfl⟩:=Option.map_eq_some_iff.mp e
  exact step n x a hx J⟩) fun a J=>by
  rw [List.length_map] at J ⊢
  exact ⟨st _ a J,fin a J⟩
theorem forN {n:Nat} {f:Nat->Nat} (h:I 0 a) (step:∀ j a,j < n->I j a->body (.int (f j:Int)) (s j a) (Fxt s I (j+1))) (fin:∀ a,I n a->k (s n a)):ForI (rngItems n f) none body (s 0 a) k :=
 forR s I a h (fun j v a e J=>⟨trivial,by
  rw [rngItems,List.getElem?_map] at e
  obtain ⟨x,hx,rfl⟩:=Option.map_eq_some_iff.mp e
  obtain ⟨hl,rfl⟩:=List.getElem?_eq_some_iff.mp hx
  rw [List.getElem_range]
  rw [List.length_range] at hl
  exact step j a hl J⟩) fun a J=>by
  rw [rngItems,List.length_map,List.length_range] at J ⊢
  exact ⟨trivial,fin a J⟩
end
theorem map_take_succ {α β:Type} {f:α->β} {xs:List α} {j:Nat} {x:α} (h:xs[j]?=some x):(xs.take j).map f++[f x]=(xs.take (j+1)).map f:=by rw [List.take_add_one,h,List.map_append];rfl
structure RI where
 level:Nat
 size:Nat
 check:Nat
 small:List UInt8
 large:List UInt8
section
variable (r:RI)
noncomputable def RI.vals:List AV:=[.int (r.level:Int),.int (r.size:Int),.int (r.check:Int),.bytes r.small,.bytes r.large]
noncomputable abbrev RI.obj:AObj:=.inst i_RunInfo [(i_level,.int (r.level:Int)),(i_size,.int (r.size:Int)),(i_check,.int (r.check:Int)),(i_smallest,.bytes r.small),(i_largest,.bytes r.large)]
noncomputable def RI.enc:List UInt8:=Ab.enc r.level++(Ab.enc r.size++(fix r.check++((Ab.enc r.small.length++r.small)++(Ab.enc r.large.length++r.large))))
structure RI.Ok:Prop where
 level:r.level < 12
 size:r.size < 18446744073709551616
 check:r.check < 4294967296
 small:r.small.length<=250
 large:r.large.length<=250
end
structure MF where
 index:Nat
 term:Nat
 conf:List UInt8
 seq:Nat
 runs:List RI
section
variable (m:MF)
noncomputable def MF.row:AV:=.tup [.int (m.index:Int),.int (m.term:Int),.bytes m.conf,.int (m.seq:Int),.tup (m.runs.map fun r=>.tup r.vals)]
noncomputable abbrev MF.obj (lr:Nat):AObj:=.inst i_Manifesto [(i_index,.int (m.index:Int)),(i_term,.int (m.term:Int)),(i_conf_octets,.bytes m.conf),(i_last_seq,.int (m.seq:Int)),(i_runs,.ref lr)]
noncomputable def MF.enc:List UInt8:=Ab.enc m.index++(Ab.enc m.term++(Ab.enc m.seq++((Ab.enc m.conf.length++m.conf)++(Ab.enc m.runs.length++(m.runs.map RI.enc).flatten))))
structure MF.Ok:Prop where
 index:m.index < 18446744073709551616
 term:m.term < 18446744073709551616
 seq:m.seq<=72057594037927935
 conf:m.conf.length<=300
 len:m.runs.length<=150
 runs:∀ r∈m.runs,r.Ok
end
structure MC where
 N:Nat
 m:Nat
 lr:Nat
 mf:MF
 rs:List (Nat×RI)
structure Man (k:MC) (H:AH):Prop where
 hm:H[k.m]?=some (k.mf.obj k.lr)
 hr:H[k.lr]?=some (.list (k.rs.map fun p=>.ref p.1))
 ho:∀ p∈k.rs,H[p.1]?=some p.2.obj
 lm:k.m < k.N
 ll:k.lr < k.N
 lo:∀ p∈k.rs,p.1 < k.N
 eq:k.rs.map (·.2)=k.mf.runs
 ok:k.mf.Ok
section
variable {k:MC} {H H':AH} {S:List Nat}
theorem Man.upd (h:Man k H) (hu:Upd S H H') (hs:∀ x∈S,k.N<=x):Man k H' :=
 have n:∀ {y},y < k.N->y∉S:=fun l q=>Nat.lt_irrefl _ (Nat.lt_of_lt_of_le l (hs _ q))
 ⟨hu.get h.hm (n h.lm),hu.get h.hr (n h.ll),fun p hp=>hu.get (h.ho p hp) (n (h.lo p hp)),h.lm,h.ll,h.lo,h.eq,h.ok⟩
theorem Man.upd0 (h:Man k H) (hu:Upd [] H H'):Man k H':=h.upd hu fun _ q=>nomatch q
theorem Man.rok (h:Man k H) {p:Nat×RI} (hp:p∈k.rs):p.2.Ok:=h.ok.runs _ (h.eq▸List.mem_map_of_mem hp)
theorem Man.len (h:Man k H):k.rs.length=k.mf.runs.length:=h.eq▸(List.length_map _).symm
theorem Man.le (h:Man k H):k.rs.length<=150:=h.len▸h.ok.len
end
section
variable {d:Nat} {H:AH} {Q:AV->AH->Prop} {E:Nat->AH->Prop}
theorem setLast {o o':AObj}:(H++[o]).set H.length o'=H++[o']:=by rw [List.set_append_right _ _ (Nat.le_refl _),Nat.sub_self];rfl
theorem ini5 {o a b c d e:AObj}:(((((H++[o]).set H.length a).set H.length b).set H.length c).set H.length d).set H.length e=H++[e]:=by rw [List.set_set,List.set_set,List.set_set,List.set_set,setLast]
theorem ri_init (r:RI) (hQ:Q .none (H++[r.obj])):callN T (d+1) i_RunInfo 1 (.ref H.length::r.vals) (H++[.inst i_RunInfo []]) Q E :=
 have q:∀ H',H'=H++[r.obj]->Q .none H':=fun H' e=>e▸hQ
 enter fd_RunInfo_init rfl rfl (sta getLast' rfl (sta (getSet getLast') rfl (sta (getSet (getSet getLast')) rfl (sta (getSet (getSet (getSet getLast'))) rfl (sta (getSet (getSet (getSet (getSet getLast')))) rfl (q _ ini5))))))
theorem ri_row {l:Nat} {r:RI} (hl:H[l]?=some r.obj) (hQ:Q (.tup r.vals) H):callN T (d+1) i_RunInfo i_row [.ref l] H Q E :=
 enter fd_RunInfo_row rfl rfl (att hl rfl rfl (att hl rfl rfl (att hl rfl rfl (att hl rfl rfl (att hl rfl rfl (hQ))))))
theorem ri_fits {l:Nat} {r:RI} {b:List UInt8} (hl:H[l]?=some r.obj) (hb:b.length<=200) (hQ:Q (.bool (decide (b.length=r.size/\chk b=r.check))) H):callN T (d + 2) i_RunInfo i_fits [.ref l,.bytes b] H Q E :=
 have q:∀ {P:Prop} [Decidable P],(P↔(b.length=r.size/\chk b=r.check))->Q (.bool (decide P)) H:=fun h=>(decide_eq_decide.mpr h)▸hQ
 enter fd_RunInfo_fits rfl rfl (att hl rfl rfl ((Decidable.em (b.length=r.size)).elim
  (fun h=>ifT (Int.ofNat_inj.mpr h) ⟨rfl,checksum_spec hb (att hl rfl rfl (q (Int.ofNat_inj.trans ⟨fun g=>⟨h,g⟩,fun g=>g.2⟩)))⟩)
  fun h=>ifF (fun g=>h (Int.ofNat_inj.mp g)) (q (Int.ofNat_inj.trans ⟨fun g=>absurd g h,fun g=>g.1⟩))))
theorem mf_init {lr:Nat} (m:MF) (hQ:Q .none (H++[m.obj lr])):callN T (d+1) i_Manifesto 1 [.ref H.length,.int (m.index:Int),.int (m.term:Int),.bytes m.conf,.int (m.seq:Int),.ref lr] (H++[.inst i_Manifesto []]) Q E :=
 have q:∀ H',H'=H++[m.obj lr]->Q .none H':=fun H' e=>e▸hQ
 enter fd_Manifesto_init rfl rfl (sta getLast' rfl (sta (getSet getLast') rfl (sta (getSet (getSet getLast')) rfl (sta (getSet (getSet (getSet getLast'))) rfl (sta (getSet (getSet (getSet (getSet getLast')))) rfl (q _ ini5))))))
structure RowsI (H:AH) (L:List AV) (a:Option AV×AH):Prop where
 u:Upd [] H a.2
 o:a.2[H.length]?=some (.list L)
theorem RowsI.push {H H':AH} {L:List AV} {a:Option AV×AH} (J:RowsI H L a) (u:Upd [] a.2 H') {v:AV} {t:Option AV} {L':List AV} (e:L++[v]=L'):RowsI H L' (t,H'.set H.length (.list (L++[v]))) :=
 ⟨(J.u.trans u).fresh (.set (.head _)) (Nat.le_refl _),e▸getSet (u.get0 J.o)⟩
theorem len_take {α β:Type} {f:α->β} {xs:List α} {j n:Nat} (h:xs.length<=n) (hn:n < 1048576):((xs.take j).map f).length < LIM:=by
 rw [List.length_map,List.length_take]
 exact Nat.lt_of_le_of_lt (Nat.le_trans (Nat.min_le_right _ _) h) hn
theorem mf_row {k:MC} (M:Man k H) (hQ:∀ H',Upd [] H H'->Q k.mf.row H'):callN T (d + 2) i_Manifesto i_row [.ref k.m] H Q E :=
 have z:Upd [] H (H++[AObj.list []]):=.app
 enter fd_Manifesto_row rfl rfl (att (z.get0 M.hm) rfl rfl (Lst.mk _ (z.get0 M.hr)
  (forL (fun j (a:Option AV×AH)=>⟨[some (.ref k.m),some (.ref H.length),a.1],a.2⟩) (fun j=>RowsI H ((k.rs.take j).map fun p=>.tup p.2.vals)) (none,H++[AObj.list []])
   ⟨z,getLast'⟩ (fun n a J=>J.u.get0 M.hr)
   (fun j p a e J=>⟨Lst.mk _ J.o trivial,mth (J.u.get0 (M.ho p (List.mem_of_getElem? e))) rfl (ri_row (J.u.get0 (M.ho p (List.mem_of_getElem? e))) (Lst.mk _ J.o ⟨len_take M.le (by decide),Fxt.mk (_,_) rfl (J.push .refl (map_take_succ e))⟩))⟩)
   fun a J =>
    have x:=J.u.get0 M.hm
    have q:∀ v,v=AV.tup (k.mf.runs.map fun r=>.tup r.vals)->Q (.tup [.int (k.mf.index:Int),.int (k.mf.term:Int),.bytes k.mf.conf,.int (k.mf.seq:Int),v]) a.2:=fun v e=>e▸hQ _ J.u
    att x rfl rfl (att x rfl rfl (att x rfl rfl (att x rfl rfl (Lst.mk _ J.o (q _ (by rw [List.take_length,<-M.eq,List.map_map];rfl)))))))))
end
end Ab
end
section
namespace Ab
open PySem
theorem RI.enc_app (r:RI) (w:List UInt8):r.enc++w=Ab.enc r.level++(Ab.enc r.size++(fix r.check++((Ab.enc r.small.length++r.small)++((Ab.enc r.large.length++r.large)++w)))):=by
 rw [RI.enc,List.append_assoc,List.append_assoc,List.append_assoc,List.append_assoc]
section
variable {r:RI} (h:r.Ok)
include h
theorem RI.Ok.lev:r.level < 18446744073709551616:=Nat.lt_trans h.level (by decide)
theorem RI.Ok.siz:r.size < 18446744073709551616:=h.size
theorem RI.Ok.sma:r.small.length < 4294967296:=Nat.lt_of_le_of_lt h.small (by decide)
theorem RI.Ok.lar:r.large.length < 4294967296:=Nat.lt_of_le_of_lt h.large (by decide)
theorem RI.Ok.len:r.enc.length<=550:=by
 rw [RI.enc,List.length_append,List.length_append,List.length_append,List.length_append,List.length_append,List.length_append]
 exact Nat.le_trans (Nat.add_le_add (enc_len64 h.lev) (Nat.add_le_add (enc_len64 h.siz) (Nat.add_le_add_left (Nat.add_le_add (Nat.add_le_add (enc_len32 h.sma) h.small) (Nat.add_le_add (enc_len32 h.lar) h.large)) 4))) (by decide)
end
theorem flat_len:∀ {rs:List RI},(∀ r∈rs,r.Ok)->((rs.map RI.enc).flatten).length<=550 * rs.length
 | [],_=>Nat.le_refl _
 | r::rs,h=>by
  rw [List.map_cons,List.flatten_cons,List.length_append,List.length_cons,Nat.mul_succ,Nat.add_comm]
  exact Nat.add_le_add (flat_len fun x hx=>h x (.tail _ hx)) (h r (.head _)).len
section
variable {m:MF} (h:m.Ok)
include h
theorem MF.Ok.sq:m.seq < 18446744073709551616:=Nat.lt_of_le_of_lt h.seq (by decide)
theorem MF.Ok.cf:m.conf.length < 4294967296:=Nat.lt_of_le_of_lt h.conf (by decide)
theorem MF.Ok.ln:m.runs.length < 18446744073709551616:=Nat.lt_of_le_of_lt h.len (by decide)
theorem MF.Ok.encLt:m.enc.length<=99999:=by
 rw [MF.enc,List.length_append,List.length_append,List.length_append,List.length_append,List.length_append,List.length_append]
 exact Nat.le_trans (Nat.add_le_add (enc_len64 h.index) (Nat.add_le_add (enc_len64 h.term) (Nat.add_le_add (enc_len64 h.sq) (Nat.add_le_add (Nat.add_le_add (enc_len32 h.cf) h.conf) (Nat.add_le_add (enc_len64 h.ln) (Nat.le_trans (flat_len h.runs) (Nat.mul_le_mul_left _ h.len))))))) (by decide)
theorem MF.Ok.encLen:m.enc.length<=100000:=Nat.le_succ_of_le h.encLt
end
theorem drop_at {α:Type} {xs:List α} {j:Nat} {x:α} (h:xs[j]?=some x):xs.drop j=x::xs.drop (j+1):=by
 obtain ⟨hl,rfl⟩:=List.getElem?_eq_some_iff.mp h
 exact List.drop_eq_getElem_cons hl
noncomputable def encs (rs:List (Nat×RI)):List UInt8:=(rs.map fun p=>p.2.enc).flatten
theorem encs_at {rs:List (Nat×RI)} {j:Nat} {p:Nat×RI} (h:rs[j]?=some p):encs (rs.drop j)=p.2.enc++encs (rs.drop (j+1)):=by rw [drop_at h];rfl
section
variable {d:Nat} {H:AH} {Q:AV->AH->Prop} {E:Nat->AH->Prop}
theorem mf_encode {k:MC} (M:Man k H) (hQ:∀ H',Upd [] H H'->Q (.bytes k.mf.enc) H'):callN T (d + 4) i_Manifesto i_encode [.ref k.m] H Q E :=
 have ok:=M.ok
 have en:∀ {b w:List UInt8} {p:Nat} {G:AH},Snk k.mf.enc H p b w G->G[k.m]?=some (k.mf.obj k.lr):=fun J=>J.u.get0 M.hm
 by
 refine enter fd_Manifesto_encode rfl rfl ⟨rfl,sink_init (H:=H) ok.encLen fun H1 p J1=>⟨rfl,?_⟩⟩
 refine mth J1.hs rfl (att (en J1) rfl rfl (sink_varint J1 ok.index fun H2 J2=>?_))
 refine mth J2.hs rfl (att (en J2) rfl rfl (sink_varint J2 ok.term fun H3 J3=>?_))
 refine mth J3.hs rfl (att (en J3) rfl rfl (sink_varint J3 ok.sq fun H4 J4=>?_))
 refine mth J4.hs rfl (att (en J4) rfl rfl (sink_lengthed J4 ok.cf fun H5 J5=>?_))
 refine mth J5.hs rfl (att (en J5) rfl rfl (Lst.mk _ (J5.u.get0 M.hr) ?_))
 have J5':Snk k.mf.enc H p ([]++enc k.mf.index++enc k.mf.term++enc k.mf.seq++enc k.mf.conf.length++k.mf.conf) (enc (k.rs.map fun p=>AV.ref p.1).length++encs k.rs) H5:=J5.cast (by rw [List.length_map,M.len,encs,<-M.eq,List.map_map];rfl)
 refine sink_varint J5' (by rw [List.length_map,M.len];exact ok.ln) fun H6 J6=>?_
 refine att (en J6) rfl rfl (Lst.mk _ (J6.u.get0 M.hr) ?_)
 refine forL (fun j (a:Option AV×AH×List UInt8)=>⟨[some (.ref k.m),some (.ref H.length),a.1],a.2.1⟩) (fun j a=>Snk k.mf.enc H p a.2.2 (encs (k.rs.drop j)) a.2.1) (none,H6,_) J6 (fun n a J=>J.u.get0 M.hr) (fun j q a e J=>?_) (fun a J=>?_)
 ·have o:=fun {G:AH} (u:Upd [] H G)=>u.get0 (M.ho q (List.mem_of_getElem? e))
  have ok:=M.rok (List.mem_of_getElem? e)
  have Ja:=J.cast ((encs_at e).trans (q.2.enc_app _))
  refine mth Ja.hs rfl (att (o Ja.u) rfl rfl (sink_varint Ja ok.lev fun Hb Jb=>?_))
  refine mth Jb.hs rfl (att (o Jb.u) rfl rfl (sink_varint Jb ok.siz fun Hc Jc=>?_))
  refine mth Jc.hs rfl (att (o Jc.u) rfl rfl (sink_fixed32 Jc ok.check fun Hd Jd=>?_))
  refine mth Jd.hs rfl (att (o Jd.u) rfl rfl (sink_lengthed Jd ok.sma fun He Je=>?_))
  refine mth Je.hs rfl (att (o Je.u) rfl rfl (sink_lengthed Je ok.lar fun Hf Jf=>?_))
  exact Fxt.mk (_,_,_) rfl Jf
 ·refine mth J.hs rfl (sink_done (J.cast (by rw [List.drop_length];rfl)) (hQ _ J.u))
end
end Ab
end
section
namespace Ab
open PySem
section
variable {d:Nat} {H:AH} {Q:AV->AH->Prop} {E:Nat->AH->Prop}
structure DcA where
 rs:List (Nat×RI)
 t8:Option AV
 t9:Option AV
 t10:Option AV
 t11:Option AV
 t12:Option AV
 H:AH
structure DcI (data cut ex:List UInt8) (mf:MF) (H:AH) (r:Nat) (a:DcA):Prop where
 c:Crs data cut H.length (H++[.inst i_Cursor []]) (((mf.runs.drop a.rs.length).map RI.enc).flatten++ex) a.H
 hr:a.H[r]?=some (.list (a.rs.map fun p=>.ref p.1))
 ho:∀ p∈a.rs,a.H[p.1]?=some p.2.obj/\r < p.1
 eq:a.rs.map (·.2)=mf.runs.take a.rs.length
 lr:H.length < r
theorem drops_at {xs:List RI} {j:Nat} {x:RI} {ex:List UInt8} (h:xs[j]?=some x):((xs.drop j).map RI.enc).flatten++ex=x.enc++(((xs.drop (j+1)).map RI.enc).flatten++ex):=by
 rw [drop_at h,List.map_cons,List.flatten_cons,List.append_assoc]
section
variable {data cut ex w w':List UInt8} {c m r:Nat} {B H G:AH}
theorem Crs.cast (J:Crs data cut c B w H) (e:w=w'):Crs data cut c B w' H:=e▸J
theorem Crs.app (J:Crs data cut c B w H):Crs data cut c B w (H++G):=⟨J.u.trans .app,J.at'.elim fun a h=>⟨a,Upd.get0 .app h.1,h.2⟩,J.le⟩
theorem Crs.base (J:Crs data cut c B w H):Crs data cut c H w H:=⟨.refl,J.at',J.le⟩
theorem Crs.mth (J:Crs data cut c B w H) {K:Nat->Prop} (hc:(T.fn i_Cursor m).isSome=true) (hf:∀ x y,fget m [(i_data,x),(i_at,y)]=none) (h:K i_Cursor) :
  Ins H c fun c fs=>(T.fn c m).isSome=true/\c≠0/\fget m fs=none/\K c:=J.at'.elim fun a h2=>⟨_,_,h2.1,hc,by decide,hf _ _,h⟩
theorem Crs.old {o:AObj} (J:Crs data cut H.length (H++[o]) w G):Upd [] H G:=Upd.fresh .app J.u (Nat.le_refl _)
theorem Crs.lt (J:Crs data cut c B w H):c < H.length:=J.at'.elim fun a h=>(List.getElem?_eq_some_iff.mp h.1).1
variable {mf:MF} {a:DcA} {x:RI}
theorem DcI.lt (I:DcI data cut ex mf H r a):a.rs.length<=mf.runs.length:=by
 have e:=congrArg List.length I.eq
 rw [List.length_map,List.length_take] at e
 exact e▸Nat.min_le_right _ _
theorem DcI.step (I:DcI data cut ex mf H r a) (e:mf.runs[a.rs.length]?=some x) (J:Crs data cut H.length a.H (((mf.runs.drop (a.rs.length+1)).map RI.enc).flatten++ex) G) {t8 t9 t10 t11 t12:Option AV} :
  DcI data cut ex mf H r ⟨a.rs++[(G.length,x)],t8,t9,t10,t11,t12,(G++[x.obj]).set r (.list ((a.rs.map fun p=>.ref p.1)++[.ref G.length]))⟩:=by
 have nr:r∉[H.length]:=fun q=>Nat.ne_of_gt I.lr (List.mem_singleton.mp q)
 have hr:=J.u.get I.hr nr
 have lr:=(List.getElem?_eq_some_iff.mp hr).1
 have hr2:=Upd.get0 (H':=G++[x.obj]) .app hr
 have J2:=J.app (G:=[x.obj])
 have hl:(a.rs++[(G.length,x)]).length=a.rs.length+1:=List.length_append
 refine ⟨⟨?_,?_,J.le⟩,?_,fun p hp=>?_,?_,I.lr⟩
 ·exact Upd.fresh (I.c.u.trans J2.u) (.set (.head _)) (Nat.le_trans (Nat.le_of_eq List.length_append) I.lr) |>.mono fun _ h=>h
 ·rw [hl]
  exact J2.at'.elim fun a h2=>⟨a,by rw [List.getElem?_set_ne (Nat.ne_of_gt I.lr)];exact h2.1,h2.2⟩
 ·rw [List.map_append]
  exact getSet hr2
 ·rcases List.mem_append.mp hp with hp|hp
  ·obtain ⟨h1,h2⟩:=I.ho p hp
   refine ⟨?_,h2⟩
   rw [List.getElem?_set_ne (Nat.ne_of_lt h2)]
   exact Upd.get0 .app (J.u.get h1 fun q=>Nat.ne_of_gt (Nat.lt_trans I.lr h2) (List.mem_singleton.mp q))
  ·obtain rfl:=List.mem_singleton.mp hp
   refine ⟨?_,lr⟩
   rw [List.getElem?_set_ne (Nat.ne_of_lt lr)]
   exact getLast'
 ·rw [hl,List.take_add_one,e,List.map_append,I.eq]
  rfl
end
theorem ltApp {H:AH} {p:Nat} {o o':AObj} (e:H[p]?=some o):p < (H++[o']).length:=List.length_append▸Nat.lt_succ_of_lt (List.getElem?_eq_some_iff.mp e).1
theorem DcI.man {data cut ex:List UInt8} {mf:MF} {r:Nat} {a:DcA} (I:DcI data cut ex mf H r a) (ok:mf.Ok) (ej:a.rs.length=mf.runs.length):Man ⟨(a.H++[mf.obj r]).length,a.H.length,r,mf,a.rs⟩ (a.H++[mf.obj r]):=by
 have eq:=I.eq
 rw [ej,List.take_length] at eq
 exact ⟨getLast',Upd.get0 .app I.hr,fun p hp=>Upd.get0 .app (I.ho p hp).1,List.length_append▸Nat.lt_succ_self _,ltApp I.hr,fun p hp=>ltApp (I.ho p hp).1,eq,ok⟩
theorem enc_ex (m:MF) (ex:List UInt8):m.enc++ex=enc m.index++(enc m.term++(enc m.seq++((enc m.conf.length++m.conf)++(enc m.runs.length++((m.runs.map RI.enc).flatten++ex))))):=by
 rw [MF.enc,List.append_assoc (enc m.index),List.append_assoc (enc m.term),List.append_assoc (enc m.seq),List.append_assoc (enc m.conf.length++m.conf),List.append_assoc (enc m.runs.length)]
theorem mf_decode {mf:MF} (ok:mf.Ok) {data cut ex:List UInt8} (hd:data.length<=100000) (he:data++cut=mf.enc++ex) (hx:cut=[]\/ex=[]) (hQ:cut=[]->ex=[]->∀ H' k,Upd [] H H'->Man k H'->k.mf=mf->k.N=H'.length->Q (.ref k.m) H')
  (hS:cut≠[]->∀ H',Upd [] H H'->E i_ShortOctets H') (hC:ex≠[]->∀ H',Upd [] H H'->E i_Corrupt H'):callN T (d + 5) 0 i_decode_manifesto [.bytes data] H Q E:=by
 refine enter fd_decode_manifesto rfl rfl ⟨rfl,cursor_init (H:=H) hd (he.trans (enc_ex mf ex)) fun H1 J1=>⟨rfl,?_⟩⟩
 refine J1.mth rfl (fun _ _=>rfl) (cursor_varint (fun z=>hS z _ J1.old) J1 ok.index fun H2 J2=>?_)
 refine J2.mth rfl (fun _ _=>rfl) (cursor_varint (fun z=>hS z _ J2.old) J2 ok.term fun H3 J3=>?_)
 refine J3.mth rfl (fun _ _=>rfl) (cursor_varint (fun z=>hS z _ J3.old) J3 ok.sq fun H4 J4=>?_)
 refine ifF (Int.not_lt.mpr (Int.ofNat_le.mpr ok.seq)) ?_
 refine J4.mth rfl (fun _ _=>rfl) (cursor_lengthed (fun z=>hS z _ J4.old) J4 ok.cf fun H5 J5=>?_)
 refine J5.mth rfl (fun _ _=>rfl) (cursor_varint (fun z=>hS z _ J5.old) J5 ok.ln fun H6 J6=>?_)
 refine whl (fun a:DcA=>mf.runs.length - a.rs.length) (fun a=>⟨[some (.bytes data),some (.ref H.length),some (.int (mf.index:Int)),some (.int (mf.term:Int)),some (.int (mf.seq:Int)),some (.bytes mf.conf),some (.int (mf.runs.length:Int)),some (.ref H6.length),a.t8,a.t9,a.t10,a.t11,a.t12],a.H⟩) (fun a=>DcI data cut ex mf H H6.length a)
  ⟨[],none,none,none,none,none,H6++[.list []]⟩ ⟨J6.app,getLast',(fun _ q=>nomatch q),rfl,J6.lt⟩ fun a I=>?_
 refine Lst.mk _ I.hr ?_
 have el:(a.rs.map fun p=>AV.ref p.1).length=a.rs.length:=List.length_map _
 rcases Nat.lt_or_ge a.rs.length mf.runs.length with hj|hj
 ·have e:mf.runs[a.rs.length]?=some mf.runs[a.rs.length]:=List.getElem?_eq_getElem hj
  have rok:=ok.runs _ (List.getElem_mem hj)
  generalize mf.runs[a.rs.length]=x at e rok
  have Ja:=I.c.base.cast ((drops_at e).trans (x.enc_app _))
  have S:cut≠[]->∀ {w G},Crs data cut H.length a.H w G->E i_ShortOctets G:=fun z w G J=>hS z _ (Upd.fresh .app (I.c.u.trans J.u) (Nat.le_refl _))
  refine ifT (Int.ofNat_lt.mpr (el▸hj)) ?_
  refine Ja.mth rfl (fun _ _=>rfl) (cursor_varint (fun z=>S z Ja) Ja rok.lev fun Hb Jb=>?_)
  refine ifF (Int.not_le.mpr (Int.ofNat_lt.mpr rok.level)) ?_
  refine Jb.mth rfl (fun _ _=>rfl) (cursor_varint (fun z=>S z Jb) Jb rok.siz fun Hc Jc=>?_)
  refine Jc.mth rfl (fun _ _=>rfl) (cursor_fixed32 (fun z=>S z Jc) Jc rok.check fun Hd Jd=>?_)
  refine Jd.mth rfl (fun _ _=>rfl) (cursor_lengthed (fun z=>S z Jd) Jd rok.sma fun He Je=>?_)
  refine Je.mth rfl (fun _ _=>rfl) (cursor_lengthed (fun z=>S z Je) Je rok.lar fun Hf Jf=>?_)
  have hr:=Jf.u.get I.hr fun q=>Nat.ne_of_gt I.lr (List.mem_singleton.mp q)
  exact ⟨Lst.mk _ hr trivial,rfl,ri_init x ⟨rfl,Lst.mk _ (Upd.get0 .app hr) ⟨Nat.lt_of_le_of_lt (Nat.le_trans (el▸I.lt) ok.len) (by decide),Nxt.mk ⟨_,_,_,_,_,_,_⟩ rfl (by rw [List.length_append];exact Nat.sub_lt_sub_left hj (Nat.lt_succ_self _)) (I.step e Jf)⟩⟩⟩
 ·have ej:a.rs.length=mf.runs.length:=Nat.le_antisymm I.lt hj
  have J:=I.c.cast (w':=ex) (by rw [ej,List.drop_length];rfl)
  refine ifF (Int.not_lt.mpr (Int.ofNat_le.mpr (el▸hj))) ?_
  refine J.mth rfl (fun _ _=>rfl) (cursor_done J hx (fun z1 z2=>⟨rfl,mf_init mf ⟨rfl,?_⟩⟩) fun z=>hC z _ J.old)
  exact hQ z1 z2 _ _ (J.old.trans .app) (I.man ok ej) rfl rfl
end
end Ab
end
section
namespace Ab
open PySem
abbrev Piece:=Nat×List UInt8
abbrev Cell:=List (Option UInt8)
def cat (c:Cell) (i:Nat):Option UInt8:=c[i]?.getD none
theorem cat_of {c:Cell} {i:Nat} {o:Option UInt8} (h:c[i]?=some o):cat c i=o:=by rw [cat,h];rfl
theorem cat_some {c:Cell} {i:Nat} {x:UInt8} (h:cat c i=some x):c[i]?=some (some x):=by
 unfold cat at h
 cases e:c[i]? with
 | none=>rw [e] at h;cases h
 | some o=>rw [e] at h;exact congrArg some h
theorem at_cat {c:Cell} {i:Nat} (h:i < c.length):c[i]?=some (cat c i):=by rw [cat,List.getElem?_eq_getElem h];rfl
def layR:List Piece->Nat->List UInt8->List Piece
 | [],a,b=>[(a,b)]
 | p::r,a,b=>if p.1 + p.2.length=a then (p.1,p.2++b)::r else (a,b)::p::r
theorem layT {p:Piece} {r:List Piece} {a:Nat} {b:List UInt8} (h:p.1 + p.2.length=a):layR (p::r) a b=(p.1,p.2++b)::r:=if_pos h
theorem layN {p:Piece} {r:List Piece} {a:Nat} {b:List UInt8} (h:¬ p.1 + p.2.length=a):layR (p::r) a b=(a,b)::p::r:=if_neg h
def strR (c:Cell):Nat->List Piece
 | 0=>[]
 | n+1=>(cat c n).elim (strR c n) fun x=>layR (strR c n) n [x]
def str (c:Cell):List Piece:=(strR c c.length).reverse
section
variable {c:Cell}
theorem strR_no {n:Nat} (h:cat c n=none):strR c (n+1)=strR c n:=by rw [strR,h];rfl
theorem strR_yes {n:Nat} {x:UInt8} (h:cat c n=some x):strR c (n+1)=layR (strR c n) n [x]:=by rw [strR,h];rfl
theorem strR_none {p q:Nat} (hpq:p<=q) (h:∀ i,p<=i->i < q->cat c i=none):strR c q=strR c p:=by
 induction hpq with
 | refl=>rfl
 | step l ih=>rw [strR_no (h _ l (Nat.lt_succ_self _)),ih fun i h1 h2=>h i h1 (Nat.lt_succ_of_lt h2)]
theorem layR_snoc (a:Nat) (b:List UInt8) (x:UInt8):∀ R:List Piece,layR (layR R a b) (a + b.length) [x]=layR R a (b++[x])
 | []=>if_pos rfl
 | p::r=>by
  by_cases h:p.1 + p.2.length=a
  ·rw [layT h,layT h,layT (by rw [List.length_append,<-Nat.add_assoc,h]),List.append_assoc]
  ·rw [layN h,layN h,layT rfl]
theorem strR_bytes {a:Nat} {b:List UInt8} (hb:∀ t x,b[t]?=some x->cat c (a + t)=some x):∀ k,k < b.length->strR c (a + (k+1))=layR (strR c a) a (b.take (k+1))
 | 0,h=>by
  have e:=List.getElem?_eq_getElem h
  rw [List.take_add_one,e]
  exact strR_yes (hb 0 _ e)
 | k+1,h=>by
  have e:=List.getElem?_eq_getElem h
  have l:(b.take (k+1)).length=k+1:=List.length_take_of_le (Nat.le_of_lt h)
  rw [List.take_add_one,e]
  exact ((strR_yes (hb _ _ e)).trans (congrArg (fun R=>layR R (a + (k+1)) [b[k+1]]) (strR_bytes hb k (Nat.lt_of_succ_lt h)))).trans ((congrArg (fun l=>layR (layR (strR c a) a (b.take (k+1))) (a + l) [b[k+1]]) l.symm).trans (layR_snoc a _ _ _))
theorem lay_step {p a:Nat} {b:List UInt8} (hb0:0 < b.length) (hpa:p<=a) (hn:∀ i,p<=i->i < a->cat c i=none) (hb:∀ t x,b[t]?=some x->cat c (a + t)=some x):layR (strR c p) a b=strR c (a + b.length):=by
 have e:=strR_bytes hb (b.length - 1) (Nat.sub_lt hb0 Nat.one_pos)
 rw [Nat.sub_add_cancel hb0,List.take_length,strR_none hpa hn] at e
 exact e.symm
def lastE:List Piece->Nat
 | []=>0
 | p::_=>p.1 + p.2.length
def Dec (c:Cell):List Piece->Nat->Prop
 | [],n=>∀ i,0<=i->i < n->cat c i=none
 | p::R,n=>((0 < p.2.length/\p.1 + p.2.length<=n)/\∀ i,p.1 + p.2.length<=i->i < n->cat c i=none)/\(∀ t x,p.2[t]?=some x->cat c (p.1 + t)=some x)/\Dec c R p.1
theorem Dec.le:∀ {R:List Piece} {n:Nat},Dec c R n->lastE R<=n
 | [],_,_=>Nat.zero_le _
 | _::_,_,h=>h.1.1.2
theorem Dec.no:∀ {R:List Piece} {n:Nat},Dec c R n->∀ i,lastE R<=i->i < n->cat c i=none
 | [],_,h=>h
 | _::_,_,h=>h.1.2
theorem upto {n i:Nat} {P:Nat->Prop} (h:P n) (hi:i < n+1) (k:i < n->P i):P i:=(Nat.lt_or_ge i n).elim k fun g=>Nat.le_antisymm (Nat.le_of_lt_succ hi) g▸h
theorem Dec.more:∀ {R:List Piece} {n:Nat},Dec c R n->cat c n=none->Dec c R (n+1)
 | [],_,h,e=>fun i h1 h2=>upto (P:=fun i=>cat c i=none) e h2 (h i h1)
 | _::_,_,h,e=>⟨⟨⟨h.1.1.1,Nat.le_succ_of_le h.1.1.2⟩,fun i h1 h2=>upto (P:=fun i=>cat c i=none) e h2 (h.1.2 i h1)⟩,h.2⟩
theorem one_at {n:Nat} {x:UInt8} (e:cat c n=some x):∀ t y,[x][t]?=some y->cat c (n + t)=some y
 | 0,_,q=>e.trans q
 | _+1,_,q=>nomatch q
theorem Dec.lay:∀ {R:List Piece} {n:Nat} {x:UInt8},Dec c R n->cat c n=some x->Dec c (layR R n [x]) (n+1)
 | [],n,x,h,e=>⟨⟨⟨Nat.one_pos,Nat.le_refl _⟩,fun i h1 h2=>absurd h2 (Nat.not_lt.mpr h1)⟩,one_at e,h⟩
 | p::r,n,x,h,e=>by
  by_cases g:p.1 + p.2.length=n
  ·rw [layT g]
   have l:p.1 + (p.2++[x]).length=n+1:=by rw [List.length_append,<-Nat.add_assoc,g];rfl
   refine ⟨⟨⟨by rw [List.length_append];exact Nat.succ_pos _,Nat.le_of_eq l⟩,fun i h1 h2=>absurd h2 (Nat.not_lt.mpr (l▸h1))⟩,fun t y q=>?_,h.2.2⟩
   rcases Nat.lt_or_ge t p.2.length with k|k
   ·rw [List.getElem?_append_left k] at q
    exact h.2.1 t y q
   ·rw [List.getElem?_append_right k] at q
    have:=one_at e _ _ q
    rw [<-g,Nat.add_assoc,Nat.add_sub_cancel' k] at this
    exact this
  ·rw [layN g]
   exact ⟨⟨⟨Nat.one_pos,Nat.le_refl _⟩,fun i h1 h2=>absurd h2 (Nat.not_lt.mpr h1)⟩,one_at e,h⟩
theorem dec_str (n:Nat):Dec c (strR c n) n:=by
 induction n with
 | zero=>exact fun i _ h=>absurd h (Nat.not_lt_zero _)
 | succ n ih =>
  cases e:cat c n with
  | none=>exact strR_no e▸ih.more e
  | some x=>exact strR_yes e▸ih.lay e
theorem Dec.rest {n:Nat}:∀ {R1 R2:List Piece} {n:Nat},Dec c (R1++R2) n->∃ m,m<=n/\Dec c R2 m
 | [],_,n,h=>⟨n,Nat.le_refl _,h⟩
 | p::R1,R2,n,h=>(Dec.rest (n:=n) h.2.2).elim fun m k=>⟨m,Nat.le_trans k.1 (Nat.le_trans (Nat.le_add_right _ _) h.1.1.2),k.2⟩
theorem dec_at (j:Nat):∃ m,m<=c.length/\Dec c ((str c).take j).reverse m:=by
 refine Dec.rest (n:=0) (R1:=((str c).drop j).reverse) ?_
 rw [<-List.reverse_append,List.take_append_drop,str,List.reverse_reverse]
 exact dec_str _
theorem take_rev {α:Type} {xs:List α} {j:Nat} {x:α} (h:xs[j]?=some x):(xs.take (j+1)).reverse=x::(xs.take j).reverse:=by
 rw [List.take_add_one,h,List.reverse_append];rfl
end
def holeF:Cell->Nat
 | []=>0
 | none::_=>0
 | some _::c=>holeF c+1
theorem holeF_of:∀ {c:Cell} {q:Nat},(∀ i,i < q->(cat c i).isSome=true)->q<=c.length->(q < c.length->cat c q=none)->holeF c=q
 | [],q,_,h,_=>(Nat.le_zero.mp h).symm
 | none::c,0,_,_,_=>rfl
 | none::c,q+1,h,_,_=>nomatch h 0 (Nat.succ_pos _)
 | some x::c,0,_,_,h=>nomatch h (Nat.succ_pos _)
 | some x::c,q+1,h1,h2,h3=>congrArg (·+1) (holeF_of (c:=c) (fun i hi=>h1 (i+1) (Nat.succ_lt_succ hi)) (Nat.le_of_succ_le_succ h2) fun h=>h3 (Nat.succ_lt_succ h))
def fill (c:Cell) (o:Nat) (pc:List UInt8):Cell:=(List.range c.length).map fun i=>(cat c i).or (if o<=i then pc[i - o]? else none)
section
variable {c:Cell} {o i:Nat} {pc:List UInt8} {x:UInt8}
theorem fillLen:(fill c o pc).length=c.length:=by rw [fill,List.length_map,List.length_range]
theorem fill_at (h:i < c.length):cat (fill c o pc) i=(cat c i).or (if o<=i then pc[i - o]? else none):=cat_of (by rw [fill,List.getElem?_map,List.getElem?_range h];rfl)
theorem cat_lt (h:cat c i=some x):i < c.length:=(List.getElem?_eq_some_iff.mp (cat_some h)).1
theorem cat_ge (h:c.length<=i):cat c i=none:=by rw [cat,List.getElem?_eq_none h];rfl
theorem fill_some (h:cat c i=some x):cat (fill c o pc) i=some x:=by rw [fill_at (cat_lt h),h];rfl
theorem fill_none (h:cat c i=none) (hi:i < o\/o + pc.length<=i):cat (fill c o pc) i=none:=by
 rcases Nat.lt_or_ge i c.length with g|g
 ·rw [fill_at g,h]
  rcases hi with hi|hi
  ·exact if_neg (Nat.not_le.mpr hi)
  ·exact (if_pos (Nat.le_trans (Nat.le_add_right _ _) hi)).trans (List.getElem?_eq_none (Nat.le_sub_of_add_le' hi))
 ·exact cat_ge (fillLen.symm▸g)
theorem fill_new (hl:i < c.length) (h:cat c i=none) (hi:o<=i):cat (fill c o pc) i=pc[i - o]?:=by rw [fill_at hl,h];exact if_pos hi
theorem cell_ext {c c':Cell} (hl:c.length=c'.length) (h:∀ i,i < c'.length->cat c i=cat c' i):c=c':=by
 refine List.ext_getElem? fun i=>?_
 rcases Nat.lt_or_ge i c'.length with g|g
 ·rw [at_cat g,at_cat (hl▸g),h i g]
 ·rw [List.getElem?_eq_none g,List.getElem?_eq_none (hl▸g)]
def New (c:Cell) (o e:Nat):Prop:=∃ i,o<=i/\i < e/\cat c i=none
theorem fill_same (h:¬ New c o (o + pc.length)):fill c o pc=c:=by
 refine cell_ext fillLen fun i g=>?_
 cases e:cat c i with
 | some x=>exact fill_some e
 | none=>exact fill_none e ((Nat.lt_or_ge i o).imp id fun q=>Nat.not_lt.mp fun l=>h ⟨i,q,l,e⟩)
end
end Ab
end
section
namespace Ab
open PySem
theorem gLast {α:Type} (A:List α) (x:α):(A++[x])[A.length]?=some x:=by rw [List.getElem?_append_right (Nat.le_refl _),Nat.sub_self];rfl
theorem sLast {α:Type} (A:List α) (x y:α):(A++[x]).set A.length y=A++[y]:=by rw [List.set_append_right _ _ (Nat.le_refl _),Nat.sub_self];rfl
theorem rng_at {α:Type} {f:Nat->α} {n r:Nat} (h:r < n):((List.range n).map f)[r]?=some (f r):=by rw [List.getElem?_map,List.getElem?_range h];rfl
noncomputable abbrev pv (p:Piece):AV:=.tup [.int (p.1:Int),.bytes p.2]
noncomputable abbrev pcs (c:Cell):AObj:=.list ((str c).map pv)
noncomputable abbrev pcR (R:List Piece):AObj:=.list (R.map pv).reverse
theorem pcs_eq (c:Cell):pcs c=pcR (strR c c.length):=by rw [pcs,str,List.map_reverse]
noncomputable abbrev box (m lim hl:Nat):AObj:=.inst i_Inbox [(i_manifesto,.ref m),(i_piece_limit,.int (lim:Int)),(i_held,.ref hl)]
noncomputable abbrev refs (n:Nat) (f:Nat->Nat):AObj:=.list ((List.range n).map fun r=>.ref (f r))
noncomputable def MC.n (k:MC):Nat:=k.rs.length
noncomputable def MC.p (k:MC) (r:Nat):Nat×RI:=k.rs.getD r (0,⟨0,0,0,[],[]⟩)
section
variable {k:MC} {H:AH} {r:Nat}
theorem MC.at (h:r < k.n):k.rs[r]?=some (k.p r):=by rw [MC.p,List.getD_eq_getElem?_getD,List.getElem?_eq_getElem h];rfl
theorem MC.map {α:Type} (f:Nat×RI->α):k.rs.map f=(List.range k.n).map fun r=>f (k.p r):=by
 refine List.ext_getElem? fun i=>?_
 rcases Nat.lt_or_ge i k.n with h|h
 ·rw [rng_at h,List.getElem?_map,MC.at h];rfl
 ·rw [List.getElem?_eq_none (by rw [List.length_map];exact h),List.getElem?_eq_none (by rw [List.length_map,List.length_range];exact h)]
theorem Man.refs (M:Man k H):H[k.lr]?=some (refs k.n fun r=>(k.p r).1):=by rw [M.hr,MC.map]
theorem Man.obj (M:Man k H) (h:r < k.n):H[(k.p r).1]?=some (k.p r).2.obj:=M.ho _ (List.mem_of_getElem? (MC.at h))
theorem Man.rk (M:Man k H) (h:r < k.n):(k.p r).2.Ok:=M.rok (List.mem_of_getElem? (MC.at h))
end
structure SC where
 k:MC
 b:Nat
 hl:Nat
 lim:Nat
 cl:Nat
structure Sst where
 h:Nat->Nat
 l:Nat->Nat
 c:Nat->Cell
 f:Nat->Cell
structure Box (s:SC) (z:Sst) (H:AH):Prop where
 man:Man s.k H
 hb:H[s.b]?=some (box s.k.m s.lim s.hl)
 hh:H[s.hl]?=some (refs s.k.n z.h)
 ho:∀ r,r < s.k.n->H[z.h r]?=some (pcs (z.c r))
 sz:∀ r,r < s.k.n->(s.k.p r).2.size=(z.c r).length
 le':∀ r,r < s.k.n->(z.c r).length<=200
 l1:s.lim<=1000
 l0:0 < s.lim
 hN:s.k.N<=s.hl
 ne:∀ r,r < s.k.n->z.h r≠s.hl
section
variable {s:SC} {z:Sst} {H:AH} {r:Nat}
theorem Box.le (B:Box s z H) (h:r < s.k.n):(z.c r).length<=200:=B.le' r h
theorem Box.nl (B:Box s z H):s.k.n<=LIM:=Nat.le_trans B.man.le (by decide)
end
section
variable {d:Nat} {H:AH} {Q:AV->AH->Prop} {E:Nat->AH->Prop}
theorem lay_spec {k a:Nat} {b:List UInt8} {R:List Piece} (hk:H[k]?=some (pcR R)) (hl:R.length < LIM) (hp:lastE R + b.length<=LIM) (hQ:Q .none (H.set k (pcR (layR R a b)))):callN T (d+1) 0 i_lay [.ref k,.int (a:Int),.bytes b] H Q E:=by
 have hl':(R.map pv).reverse.length < LIM:=by rw [List.length_reverse,List.length_map];exact hl
 have q:∀ L,L=(R.map pv).reverse++[pv (a,b)]->layR R a b=(a,b)::R->Q .none (H.set k (.list L)):=fun L e1 e2=>by
  rw [pcR,e2,List.map_cons,List.reverse_cons,<-e1] at hQ
  exact hQ
 refine enter fd_lay rfl rfl (Lst.mk _ hk ?_)
 cases R with
 | nil=>exact ⟨Lst.mk _ hk trivial,Lst.mk _ hk ⟨hl',q _ rfl rfl⟩⟩
 | cons p r =>
  have e:(List.map pv (p::r)).reverse=(r.map pv).reverse++[pv p]:=by rw [List.map_cons,List.reverse_cons]
  have el:((r.map pv).reverse++[pv p]).length=(r.map pv).reverse.length+1:=List.length_append
  rw [pcR,e] at hk
  rw [e] at hl' q ⊢
  have ei:(((r.map pv).reverse++[pv p]).length:Int) - 1=((r.map pv).reverse.length:Nat):=by rw [el];exact Int.add_sub_cancel ((r.map pv).reverse.length:Int) 1
  refine ifT (el▸Int.ofNat_lt.mpr (Nat.succ_pos _)) (Lst.mk _ hk (Nt.mk (a:=.int (_ - 1)) _ (congrArg AV.int ei) (Lst.mk _ hk (At.mk _ (gLast _ _) ⟨rfl,?_⟩))))
  rcases Decidable.em (p.1 + p.2.length=a) with h|h
  ·refine ifT (Int.ofNat_inj.mpr h) ⟨Nat.le_trans (Nat.add_le_add_right (Nat.le_add_left _ _) _) hp,Lst.mk _ hk (Nt.mk (a:=.int (_ - 1)) _ (congrArg AV.int ei) (Lst.mk _ hk ⟨el▸Nat.lt_succ_self _,?_⟩))⟩
   rw [layT h,pcR,List.map_cons,List.reverse_cons] at hQ
   rw [sLast]
   exact hQ
  ·exact ifF (fun g=>h (Int.ofNat_inj.mp g)) ⟨Lst.mk _ hk trivial,Lst.mk _ hk ⟨hl',q _ rfl (layN h)⟩⟩
theorem first_hole_spec {s:SC} {z:Sst} {r:Nat} (B:Box s z H) (hr:r < s.k.n) (hQ:Q (.int (holeF (z.c r):Int)) H):callN T (d+1) i_Inbox i_first_hole [.ref s.b,.int (r:Int)] H Q E:=by
 have K:∀ q,(∀ i,i < q->(cat (z.c r) i).isSome=true)->q<=(z.c r).length->(q < (z.c r).length->cat (z.c r) q=none)->Q (.int (q:Int)) H:=fun q h1 h2 h3=>holeF_of h1 h2 h3▸hQ
 have ho:=B.ho r hr
 refine enter fd_Inbox_first_hole rfl rfl (att B.hb rfl rfl (Lst.mk _ B.hh (At.mk _ (rng_at hr) (Lst.mk _ ho ?_))))
 generalize z.c r=c at *
 refine forL (fun j (a:Option AV×Option AV)=>⟨[some (.ref s.b),some (.int (r:Int)),some (.int (lastE ((str c).take j).reverse:Int)),a.1,a.2],H⟩) (fun j _=>∀ i,i < lastE ((str c).take j).reverse->(cat c i).isSome=true) (none,none)
  (fun i hi=>absurd hi (Nat.not_lt_zero _)) (fun _ _ _=>ho) (fun j p a hp J=>⟨rfl,?_⟩) (fun a J=>?_)
 ·obtain ⟨m,hm,D⟩:=dec_at (c:=c) (j+1)
  rw [take_rev hp] at D
  rcases Nat.lt_or_ge (lastE ((str c).take j).reverse) p.1 with h|h
  ·have hl:=Nat.le_trans h (Nat.le_trans (Nat.le_add_right _ _) (Nat.le_trans D.1.1.2 hm))
   exact ifT (Int.ofNat_lt.mpr h) (K _ J (Nat.le_of_lt hl) fun _=>D.2.2.no _ (Nat.le_refl _) h)
  ·refine ifF (Int.not_lt.mpr (Int.ofNat_le.mpr h)) (Fxt.mk (_,_) (by rw [take_rev hp];rfl) fun i hi=>?_)
   rw [take_rev hp] at hi
   rcases Nat.lt_or_ge i p.1 with g|g
   ·exact J i (Nat.lt_of_lt_of_le g h)
   ·have e:=D.2.1 _ _ (List.getElem?_eq_getElem (Nat.sub_lt_left_of_lt_add g hi))
    rw [Nat.add_sub_cancel' g] at e
    exact e▸rfl
 ·obtain ⟨m,hm,D⟩:=dec_at (c:=c) (str c).length
  have D2:=dec_str (c:=c) c.length
  have e:((str c).take (str c).length).reverse=strR c c.length:=by rw [List.take_length,str,List.reverse_reverse]
  rw [e] at J ⊢
  exact K _ J D2.le fun h=>D2.no _ (Nat.le_refl _) h
def missF (c:Nat->Cell):Nat->Nat->Option (Nat×Nat)
 | 0,_=>none
 | n+1,r=>if holeF (c r) < (c r).length then some (r,holeF (c r)) else missF c n (r+1)
noncomputable def mval (o:Option (Nat×Nat)):AV:=o.elim .none fun p=>.tup [.int (p.1:Int),.int (p.2:Int)]
section
variable {c:Nat->Cell} {n r:Nat}
theorem miss_t (h:r < n) (g:holeF (c r) < (c r).length):missF c (n - r) r=some (r,holeF (c r)):=by
 rw [<-Nat.succ_pred_eq_of_pos (Nat.sub_pos_of_lt h)]
 exact if_pos g
theorem miss_f (h:r < n) (g:¬ holeF (c r) < (c r).length):missF c (n - r) r=missF c (n - (r+1)) (r+1):=by
 rw [<-Nat.succ_pred_eq_of_pos (Nat.sub_pos_of_lt h)]
 exact if_neg g
end
theorem len_refs {n:Nat} {f:Nat->AV}:((List.range n).map f).length=n:=by rw [List.length_map,List.length_range]
theorem missing_spec {s:SC} {z:Sst} (B:Box s z H) (hQ:Q (mval (missF z.c s.k.n 0)) H):callN T (d + 2) i_Inbox i_missing [.ref s.b] H Q E:=by
 have L:∀ {P:Nat->Prop},P s.k.n->P ((List.range s.k.n).map fun r=>AV.ref (z.h r)).length:=fun h=>len_refs.symm▸h
 have S:∀ {P:Nat->Prop} {r},r < s.k.n->P (z.c r).length->P (s.k.p r).2.size:=fun hr h=>(B.sz _ hr).symm▸h
 refine enter fd_Inbox_missing rfl rfl (att B.hb rfl rfl (Lst.mk _ B.hh (L (P:=fun n=>n<=LIM/\ForI (rngItems n fun i=>i) none _ _ _) ⟨B.nl,?_⟩)))
 refine forN (fun j (a:Option AV×Option AV)=>⟨[some (.ref s.b),a.1,a.2],H⟩) (fun j _=>missF z.c s.k.n 0=missF z.c (s.k.n - j) j) (none,none) rfl (fun j a hj J=>?_) fun a J=>?_
 ·refine mth B.hb rfl (first_hole_spec B hj (att B.hb rfl rfl (att B.man.hm rfl rfl (Lst.mk _ B.man.refs (At.mk _ (rng_at hj) (att (B.man.obj hj) rfl rfl ?_))))))
  refine S (P:=fun l=>ifb (decide ((holeF (z.c j):Int) < (l:Int))) _ _) hj ?_
  rcases Decidable.em (holeF (z.c j) < (z.c j).length) with h|h
  ·refine ifT (Int.ofNat_lt.mpr h) ?_
   rw [J,miss_t hj h] at hQ
   exact hQ
  ·exact ifF (fun g=>h (Int.ofNat_lt.mp g)) (Fxt.mk (_,_) rfl (J.trans (miss_f hj h)))
 ·rw [J,Nat.sub_self] at hQ
  exact hQ
theorem whole_spec {s:SC} {z:Sst} (B:Box s z H) (hQ:Q (.bool (missF z.c s.k.n 0).isNone) H):callN T (d + 3) i_Inbox i_whole [.ref s.b] H Q E:=by
 refine enter fd_Inbox_whole rfl rfl (mth B.hb rfl (missing_spec B ?_))
 revert hQ
 cases missF z.c s.k.n 0 with
 | none=>exact fun hQ=>⟨rfl,hQ⟩
 | some p=>exact fun hQ=>⟨rfl,hQ⟩
theorem take_no {s:SC} {z:Sst} {r o:Int} {pc:List UInt8} (B:Box s z H) (hno:r < 0\/(s.k.n:Int)<=r\/o < 0\/∃ i:Nat,r=i/\i < s.k.n/\((z.c i).length:Int) < o + pc.length) (hQ:Q (.bool false) H) :
  callN T (d + 2) i_Inbox i_take [.ref s.b,.int r,.int o,.bytes pc] H Q E:=by
 refine enter fd_Inbox_take rfl rfl ?_
 rcases Decidable.em (r < 0) with c1|c1
 ·exact ifT c1 (ifT c1 hQ)
 refine ifF c1 (att B.hb rfl rfl (Lst.mk _ B.hh ?_))
 rcases Decidable.em ((((List.range s.k.n).map fun r=>AV.ref (z.h r)).length:Int)<=r) with c2|c2
 ·exact ifT c2 (ifT c2 hQ)
 refine ifF c2 ?_
 rcases Decidable.em (o < 0) with c3|c3
 ·exact ifT c3 hQ
 rw [len_refs] at c2
 obtain ⟨i,rfl,hi,hl⟩:=hno.elim (absurd · c1) (Or.elim · (absurd · c2) (Or.elim · (absurd · c3) id))
 exact ifF c3 (att B.hb rfl rfl (att B.man.hm rfl rfl (Lst.mk _ B.man.refs (At.mk _ (rng_at hi) (att (B.man.obj hi) rfl rfl (ifT (B.sz i hi▸hl) hQ))))))
end
end Ab
end
section
namespace Ab
open PySem
theorem cut_at {α:Type} (xs:List α) {a b t:Nat} {x:α} (h:(cutL xs a b)[t]?=some x):a + t < b/\xs[a + t]?=some x:=by
 unfold cutL at h
 rw [List.getElem?_drop,List.getElem?_take] at h
 by_cases g:a + t < b
 ·exact ⟨g,(if_pos g).symm.trans h⟩
 ·exact nomatch (if_neg g).symm.trans h
theorem cutLen {α:Type} {xs:List α} {a b:Nat} (h:b<=xs.length):(cutL xs a b).length=b - a:=by rw [cutL,List.length_drop,List.length_take_of_le h]
theorem strR_len (c:Cell):∀ n,(strR c n).length<=n
 | 0=>Nat.le_refl _
 | n+1=>by
  have ih:=strR_len c n
  cases e:cat c n with
  | none=>exact strR_no e▸Nat.le_succ_of_le ih
  | some x =>
   rw [strR_yes e]
   refine Nat.le_trans ?_ (Nat.succ_le_succ ih)
   cases strR c n with
   | nil=>exact Nat.le_refl _
   | cons p r =>
    rcases Decidable.em (p.1 + p.2.length=n) with g|g
    ·rw [layT g];exact Nat.le_succ _
    ·rw [layN g];exact Nat.le_refl _
theorem lt_max' {a b i:Nat} (h:i < max a b) (k:a<=i):i < b:=(Nat.le_total a b).elim (fun g=>Nat.max_eq_right g▸h) fun g=>absurd (Nat.max_eq_left g▸h) (Nat.not_lt.mpr k)
def Newt (c:Cell) (o a e:Nat):Prop:=∃ i,o<=i/\(i < a/\i < e)/\cat c i=none
section
variable {c:Cell} {o q s a:Nat} {p:List UInt8}
structure Far (c:Cell) (o q a:Nat):Prop where
 lo:o<=a
 lq:q<=a
 ex:∀ i,q<=i->i < a->i < o
theorem Far.next {l:Nat} (F:Far c o q a) (h:q<=s):Far c o (s + l) (max a (s + l)):=⟨Nat.le_trans F.lo (Nat.le_max_left _ _),Nat.le_max_right _ _,fun i h1 h2=>(Nat.lt_or_ge i a).elim (fun g=>F.ex i (Nat.le_trans h (Nat.le_trans (Nat.le_add_right _ _) h1)) g) fun g=>absurd (lt_max' h2 g) (Nat.not_lt.mpr h1)⟩
theorem tk_a {m:Nat} (F:Far c o q a) (no:∀ i,q<=i->i < s->cat c i=none) (hs:m<=s) (hl:s<=c.length) (he:m<=o + p.length) (h:a < m):layR (strR (fill c o p) q) a (cutL p (a - o) (m - o))=strR (fill c o p) m:=by
 have lo:=F.lo
 have lq:=F.lq
 have ex:=F.ex
 obtain ⟨k,rfl⟩:=Nat.le.dest lo
 obtain ⟨l,rfl⟩:=Nat.le.dest (Nat.le_trans lo (Nat.le_of_lt h))
 rw [Nat.add_sub_cancel_left,Nat.add_sub_cancel_left]
 have kl:=Nat.lt_of_add_lt_add_left h
 have hc:(cutL p k l).length=l - k:=cutLen (Nat.le_of_add_le_add_left he)
 have e:=lay_step (c:=fill c o p) (p:=q) (a:=o + k) (b:=cutL p k l) (hc▸Nat.sub_pos_of_lt kl) lq (fun i g1 g2=>fill_none (no i g1 (Nat.lt_of_lt_of_le (Nat.lt_trans g2 h) hs)) (.inl (ex i g1 g2))) fun t x g=>by
  obtain ⟨g1,g2⟩:=cut_at p g
  have g3:=Nat.lt_of_lt_of_le (Nat.add_lt_add_left g1 o) hs
  rw [Nat.add_assoc,fill_new (Nat.lt_of_lt_of_le g3 hl) (no _ (Nat.le_trans lq (Nat.add_assoc o k t▸Nat.le_add_right _ _)) g3) (Nat.le_add_right _ _),Nat.add_sub_cancel_left,g2]
 rw [hc,Nat.add_assoc,Nat.add_sub_cancel' (Nat.le_of_lt kl)] at e
 exact e
theorem tk_b {b:List UInt8} (hb:0 < b.length) (hq:q<=s) (no:∀ i,q<=i->i < s->cat (fill c o p) i=none) (h:∀ t x,b[t]?=some x->cat c (s + t)=some x) :
  layR (strR (fill c o p) q) s b=strR (fill c o p) (s + b.length):=lay_step hb hq no fun t x g=>fill_some (h t x g)
theorem tk_no {e:Nat} (F:Far c o q a) (hn:¬ (a < e/\a < s)) {i:Nat} (h1:q<=i) (h2:i < s):i < o\/e<=i :=
 (Nat.lt_or_ge i a).elim (fun g=>.inl (F.ex i h1 g)) fun g=>.inr (Nat.not_lt.mp fun k=>hn ⟨Nat.lt_of_le_of_lt g k,Nat.lt_of_le_of_lt g h2⟩)
theorem new_on {e l:Nat} {b:Bool} (so:∀ t,t < l->(cat c (s + t)).isSome=true) (hn:¬ (a < e/\a < s)) (h:b=true↔Newt c o a e):b=true↔Newt c o (max a (s + l)) e:=by
 refine h.trans ⟨fun ⟨i,h1,h2,h3⟩=>⟨i,h1,⟨Nat.lt_of_lt_of_le h2.1 (Nat.le_max_left _ _),h2.2⟩,h3⟩,fun ⟨i,h1,h2,h3⟩=>⟨i,h1,⟨Nat.not_le.mp fun g=>?_,h2.2⟩,h3⟩⟩
 have sa:=Nat.not_lt.mp fun k=>hn ⟨Nat.lt_of_le_of_lt g h2.2,k⟩
 have si:=Nat.le_trans sa g
 have:=so (i - s) (Nat.sub_lt_left_of_lt_add si (lt_max' h2.1 g))
 rw [Nat.add_sub_cancel' si,h3] at this
 cases this
theorem new_in {e a':Nat} (F:Far c o q a) (no:∀ i,q<=i->i < s->cat c i=none) (h1:a < e) (h2:a < s) (h3:a < a'):true=true↔Newt c o a' e:=⟨fun _=>⟨a,F.lo,⟨h3,h1⟩,no _ F.lq h2⟩,fun _=>rfl⟩
end
def up {α:Type} (f:Nat->α) (r:Nat) (v:α):Nat->α:=fun x=>if x=r then v else f x
theorem up_at {α:Type} {f:Nat->α} {r:Nat} {v:α}:up f r v r=v:=if_pos rfl
theorem up_ne {α:Type} {f:Nat->α} {r x:Nat} {v:α} (h:x≠r):up f r v x=f x:=if_neg h
theorem up_id {α:Type} {f:Nat->α} {r:Nat}:up f r (f r)=f:=funext fun x=>by
 rcases Decidable.em (x=r) with h|h
 ·rw [h,up_at]
 ·exact up_ne h
theorem rng_set {α β:Type} {f:Nat->α} {g:α->β} {n r:Nat} {v:α}:((List.range n).map fun x=>g (f x)).set r (g v)=(List.range n).map fun x=>g (up f r v x):=by
 refine List.ext_getElem? fun i=>?_
 rw [List.getElem?_set]
 rcases Nat.lt_or_ge i n with h|h
 ·rcases Decidable.em (r=i) with rfl|k
  ·rw [if_pos rfl,List.length_map,List.length_range,if_pos h,rng_at h,up_at]
  ·rw [if_neg k,rng_at h,rng_at h,up_ne (Ne.symm k)]
 ·have e:∀ {γ:Type} (t:Nat->γ),((List.range n).map t)[i]?=none:=fun t=>List.getElem?_eq_none (by rw [List.length_map,List.length_range];exact h)
  rw [e,e]
  rcases Decidable.em (r=i) with rfl|k
  ·rw [if_pos rfl,List.length_map,List.length_range,if_neg (Nat.not_lt.mpr h)]
  ·rw [if_neg k]
theorem imin (a b:Nat):min (a:Int) b=((min a b:Nat):Int):=(Nat.le_total a b).elim (fun h=>by rw [Nat.min_eq_left h,Int.min_eq_left (Int.ofNat_le.mpr h)]) fun h=>by rw [Nat.min_eq_right h,Int.min_eq_right (Int.ofNat_le.mpr h)]
theorem imax (a b:Nat):max (a:Int) b=((max a b:Nat):Int):=(Nat.le_total a b).elim (fun h=>by rw [Nat.max_eq_right h,Int.max_eq_right (Int.ofNat_le.mpr h)]) fun h=>by rw [Nat.max_eq_left h,Int.max_eq_left (Int.ofNat_le.mpr h)]
end Ab
end
section
namespace Ab
open PySem
theorem andF {A B p q p':Prop} [Decidable A] [Decidable B] (h:¬ (A/\B)) (hq:q):ifb (decide A) (ifb (decide B) p q) (ifb (decide A) p' q) :=
 (Decidable.em A).elim (fun a=>ifT a (ifF (fun b=>h ⟨a,b⟩) hq)) fun a=>ifF a (ifF a hq)
structure Took (s:SC) (z:Sst) (r:Nat) (c':Cell) (H H':AH) (h':Nat):Prop where
 u:Upd [s.hl] H H'
 hh:H'[s.hl]?=some (refs s.k.n (up z.h r h'))
 ho:H'[h']?=some (pcs c')
 nh:h'=z.h r\/H.length<=h'
structure TkA where
 a:Nat
 new:Bool
 t9:Option AV
 t10:Option AV
 t11:Option AV
 H:AH
structure TkI (c:Cell) (o:Nat) (p:List UInt8) (H:AH) (q:Nat) (a:TkA):Prop where
 u:Upd [] H a.H
 k:a.H[H.length]?=some (pcR (strR (fill c o p) q))
 f:Far c o q a.a
 n:a.new=true↔Newt c o a.a (o + p.length)
theorem le_min' {a b i:Nat} (h:min a b<=i) (k:i < a):b<=i:=(Nat.le_total a b).elim (fun g=>absurd (Nat.min_eq_left g▸h) (Nat.not_le.mpr k)) fun g=>Nat.min_eq_right g▸h
theorem TkI.cast {c:Cell} {o:Nat} {p:List UInt8} {H:AH} {q q':Nat} {a:TkA} (e:q=q') (J:TkI c o p H q a):TkI c o p H q' a:=e▸J
theorem pc_room {c:Cell} {q m:Nat} (hq:q<=m) (hm:m<=200):(strR c q).length < LIM/\lastE (strR c q)<=200:=⟨Nat.lt_of_le_of_lt (Nat.le_trans (strR_len c q) (Nat.le_trans hq hm)) (by decide),Nat.le_trans (dec_str q).le (Nat.le_trans hq hm)⟩
section
variable {d:Nat} {H:AH} {Q:AV->AH->Prop} {E:Nat->AH->Prop}
theorem take_old {K a x:Nat} {b:List UInt8} {R:List Piece} {t0 t1 t2 t3 t4 t5 t8 t11:Option AV} {Q:Fl->St->Prop} {E:KX} (hk:H[K]?=some (pcR R)) (hl:R.length < LIM) (hp:lastE R + b.length<=LIM)
  (hQ:Q .next ⟨[t0,t1,t2,t3,t4,t5,some (.ref K),some (.int ((max a (x + b.length):Nat):Int)),t8,some (.int (x:Int)),some (.bytes b),t11],H.set K (pcR (layR R x b))⟩) :
  vSs T (callN T (d+1)) b_Inbox_take_3_1 ⟨[t0,t1,t2,t3,t4,t5,some (.ref K),some (.int (a:Int)),t8,some (.int (x:Int)),some (.bytes b),t11],H⟩ Q E:=by
 rw [<-imax] at hQ
 exact ⟨rfl,lay_spec hk hl hp hQ⟩
theorem new_in2 {c:Cell} {o q s a e:Nat} (F:Far c o q a) (no:∀ i,q<=i->i < s->cat c i=none) (h1:a < e) (h2:a < s):true=true↔New c o e:=⟨fun _=>⟨a,F.lo,h1,no _ F.lq h2⟩,fun _=>rfl⟩
theorem take_end {s:SC} {z:Sst} {r o:Nat} {p:List UInt8} {c:Cell} {nb:Bool} {H1:AH} {t2 t3 t4 t5 t7 t9 t10 t11:Option AV} {E:KX} (B:Box s z H) (hr:r < s.k.n) (hc:z.c r=c) (u:Upd [] H H1) (hk:H1[H.length]?=some (pcR (strR (fill c o p) (fill c o p).length)))
  (hn:nb=true↔New c o (o + p.length)) (hQ:∀ H' h' b,Took s z r (fill c o p) H H' h'->(b=true↔New c o (o + p.length))->Q (.bool b) H') :
  vSs T (callN T (d+1)) b_Inbox_take_0_9 ⟨[some (.ref s.b),some (.int (r:Int)),t2,t3,t4,t5,some (.ref H.length),t7,some (.bool nb),t9,t10,t11],H1⟩ (retK Q) E:=by
 cases nb with
 | false =>
  refine hQ H1 (z.h r) false ⟨u.nil,by rw [up_id];exact u.get0 B.hh,?_,.inl rfl⟩ hn
  rw [fill_same fun h=>(nomatch hn.mpr h),<-hc]
  exact u.get0 (B.ho r hr)
 | true =>
  refine att (u.get0 B.hb) rfl rfl (Lst.mk _ (u.get0 B.hh) ⟨len_refs.symm▸hr,hQ _ H.length true ⟨u.nil.trans (.set (.head _)),?_,?_,.inr (Nat.le_refl _)⟩ hn⟩)
  ·rw [rng_set (g:=AV.ref)]
   exact getSet (u.get0 B.hh)
  ·rw [List.getElem?_set_ne (Nat.ne_of_lt (List.getElem?_eq_some_iff.mp B.hh).1),pcs_eq]
   exact hk
theorem take_loop {s:SC} {z:Sst} {r o:Nat} {pc p:List UInt8} {E:KX} (B:Box s z H) (hr:r < s.k.n) (ho:o + p.length<=(z.c r).length)
  (hQ:∀ H' h' b,Took s z r (fill (z.c r) o p) H H' h'->(b=true↔New (z.c r) o (o + p.length))->Q (.bool b) H') :
  vSs T (callN T (d+1)) b_Inbox_take_0_3 ⟨[some (.ref s.b),some (.int (r:Int)),some (.int (o:Int)),some (.bytes pc),some (.bytes p),none,none,none,none,none,none,none],H⟩ (retK Q) E:=by
 have hc:=B.ho r hr
 have hl:=B.le hr
 generalize hcc:z.c r=c at *
 have z0:Upd [] H (H++[AObj.list []]):=.app
 refine att (z0.get0 B.hb) rfl rfl (Lst.mk _ (z0.get0 B.hh) (At.mk _ (rng_at hr) (Lst.mk _ (z0.get0 hc) ?_)))
 refine forL (fun j (a:TkA)=>⟨[some (.ref s.b),some (.int (r:Int)),some (.int (o:Int)),some (.bytes pc),some (.bytes p),some (.int ((o + p.length:Nat):Int)),some (.ref H.length),some (.int (a.a:Int)),some (.bool a.new),a.t9,a.t10,a.t11],a.H⟩)
  (fun j=>TkI c o p H (lastE ((str c).take j).reverse)) ⟨o,false,none,none,none,H++[.list []]⟩ ⟨z0,getLast',⟨Nat.le_refl _,Nat.zero_le _,fun _ _ h=>h⟩,⟨(fun h=>nomatch h),fun ⟨i,h1,h2,_⟩=>absurd h2.1 (Nat.not_lt.mpr h1)⟩⟩ (fun _ a J=>J.u.get0 hc) (fun j x a hp J=>⟨rfl,?_⟩) (fun a J=>?_)
 ·obtain ⟨m,hm,D⟩:=dec_at (c:=c) (j+1)
  have eq:lastE ((str c).take (j+1)).reverse=x.1 + x.2.length:=by rw [take_rev hp];rfl
  rw [take_rev hp] at D
  have hq:=D.2.2.le
  have no:=D.2.2.no
  have xs:=Nat.le_trans D.1.1.2 hm
  have x1:=Nat.le_trans (Nat.le_add_right _ _) xs
  have bl:x.2.length<=200:=Nat.le_trans (Nat.le_add_left _ _) (Nat.le_trans xs hl)
  generalize lastE ((str c).take j).reverse=q at *
  have w:=fun {q:Nat} (h:q<=x.1)=>pc_room (c:=fill c o p) h (Nat.le_trans x1 hl)
  have so:∀ t,t < x.2.length->(cat c (x.1 + t)).isSome=true:=fun t ht=>(D.2.1 t _ (List.getElem?_eq_getElem ht))▸rfl
  have old:∀ {q1:Nat} {nb:Bool} {t:Option AV} {H1:AH},q1<=x.1->Upd [] H H1->H1[H.length]?=some (pcR (strR (fill c o p) q1))->(∀ i,q1<=i->i < x.1->cat (fill c o p) i=none)->(nb=true↔Newt c o (max a.a (x.1 + x.2.length)) (o + p.length))->TkI c o p H (lastE ((str c).take (j+1)).reverse) ⟨max a.a (x.1 + x.2.length),nb,some (.int (x.1:Int)),some (.bytes x.2),t,H1.set H.length (pcR (layR (strR (fill c o p) q1) x.1 x.2))⟩:=fun h1 u k h2 h3 =>
   TkI.cast eq.symm ⟨u.fresh (.set (.head _)) (Nat.le_refl _),tk_b (p:=p) D.1.1.1 h1 h2 D.2.1▸getSet k,J.f.next hq,h3⟩
  rcases Decidable.em (a.a < o + p.length/\a.a < x.1) with g|g
  ·have le:=Nat.min_le_left x.1 (o + p.length)
   have re:=Nat.min_le_right x.1 (o + p.length)
   have lt:=Nat.lt_min.mpr ⟨g.2,g.1⟩
   refine ifT (Int.ofNat_lt.mpr g.1) (ifT (Int.ofNat_lt.mpr g.2) ?_)
   have mm:min (x.1:Int) ((o + p.length:Nat):Int) - (o:Int)=((min x.1 (o + p.length) - o:Nat):Int):=by rw [imin];exact (Int.ofNat_sub (Nat.le_trans J.f.lo (Nat.le_of_lt lt))).symm
   have ma:(a.a:Int) - (o:Int)=((a.a - o:Nat):Int):=(Int.ofNat_sub J.f.lo).symm
   have bb:∀ {k},k<=c.length->k - o < 1152921504606846976:=fun h=>Nat.lt_of_le_of_lt (Nat.sub_le _ _) (Nat.lt_of_le_of_lt (Nat.le_trans h hl) (by decide))
   refine ⟨rfl,Nt.mk (a:=.int (_ - _)) _ (congrArg AV.int ma) ⟨bb (Nat.le_trans (Nat.le_of_lt g.2) x1),Nt.mk (a:=.int (_ - _)) _ (congrArg AV.int mm) ⟨bb (Nat.le_trans le x1),lay_spec J.k (w hq).1 ?_ ?_⟩⟩⟩
   ·have cl:(cutL p (a.a - o) (min x.1 (o + p.length) - o)).length<=200:=Nat.le_trans (Nat.le_of_eq (cutLen (Nat.sub_le_iff_le_add'.mpr re))) (Nat.le_trans (Nat.sub_le _ _) (Nat.le_trans (Nat.sub_le _ _) (Nat.le_trans le (Nat.le_trans x1 hl))))
    exact Nat.le_trans (Nat.add_le_add (w hq).2 cl) (by decide)
   ·rw [tk_a J.f no le x1 re lt]
    refine take_old (getSet J.k) (w le).1 (Nat.le_trans (Nat.add_le_add (w le).2 bl) (by decide)) ?_
    exact Fxt.mk ⟨_,_,_,_,_,_⟩ rfl (old le (J.u.fresh (.set (.head _)) (Nat.le_refl _)) (getSet J.k) (fun i h1 h2=>fill_none (no i (Nat.le_trans J.f.lq (Nat.le_trans (Nat.le_of_lt lt) h1)) h2) (.inr (le_min' h1 h2))) (new_in J.f no g.1 g.2 (Nat.lt_of_lt_of_le g.2 (Nat.le_trans (Nat.le_add_right _ _) (Nat.le_max_right _ _)))))
  ·refine andF (fun h=>g ⟨Int.ofNat_lt.mp h.1,Int.ofNat_lt.mp h.2⟩) (take_old J.k (w hq).1 (Nat.le_trans (Nat.add_le_add (w hq).2 bl) (by decide)) ?_)
   exact Fxt.mk ⟨_,_,_,_,_,_⟩ rfl (old hq J.u J.k (fun i h1 h2=>fill_none (no i h1 h2) (tk_no J.f g h1 h2)) (new_on so g J.n))
 ·have eq:((str c).take (str c).length).reverse=strR c c.length:=by rw [List.take_length,str,List.reverse_reverse]
  rw [eq] at J
  have D:=dec_str (c:=c) c.length
  have no:=D.no
  have hq:=D.le
  generalize lastE (strR c c.length)=q at *
  have w:=pc_room (c:=fill c o p) hq hl
  have e0:strR (fill c o p) (fill c o p).length=strR (fill c o p) c.length:=by rw [fillLen]
  rcases Nat.lt_or_ge a.a (o + p.length) with g|g
  ·have ma:(a.a:Int) - (o:Int)=((a.a - o:Nat):Int):=(Int.ofNat_sub J.f.lo).symm
   have tk:=tk_a (m:=o + p.length) J.f no ho (Nat.le_refl _) (Nat.le_refl _) g
   rw [Nat.add_sub_cancel_left] at tk
   have pl:=Nat.le_trans (Nat.le_trans (Nat.le_add_left _ _) ho) hl
   refine ifT (Int.ofNat_lt.mpr g) ⟨rfl,Nt.mk (a:=.int (_ - _)) _ (congrArg AV.int ma) ⟨Nat.lt_of_le_of_lt (Nat.le_trans (Nat.sub_le _ _) (Nat.le_trans (Nat.le_of_lt g) (Nat.le_trans ho hl))) (by decide),lay_spec J.k w.1 (Nat.le_trans (Nat.add_le_add w.2 (Nat.le_trans (Nat.le_of_eq (cutLen (Nat.le_refl _))) (Nat.le_trans (Nat.sub_le _ _) pl))) (by decide)) ?_⟩⟩
   rw [tk]
   exact take_end B hr hcc (J.u.fresh (.set (.head _)) (Nat.le_refl _)) (by rw [e0,strR_none ho fun i h1 h2=>fill_none (no i (Nat.le_trans J.f.lq (Nat.le_trans (Nat.le_of_lt g) h1)) h2) (.inr h1)];exact getSet J.k) (new_in2 J.f no g (Nat.lt_of_lt_of_le g ho)) hQ
  ·refine ifF (Int.not_lt.mpr (Int.ofNat_le.mpr g)) (take_end B hr hcc J.u ?_ (J.n.trans ⟨fun ⟨i,h1,h2,h3⟩=>⟨i,h1,h2.2,h3⟩,fun ⟨i,h1,h2,h3⟩=>⟨i,h1,⟨Nat.lt_of_lt_of_le h2 g,h2⟩,h3⟩⟩) hQ)
   rw [e0,strR_none hq fun i h1 h2=>fill_none (no i h1 h2) (tk_no J.f (fun k=>Nat.not_lt.mpr g k.1) h1 h2)]
   exact J.k
theorem take_yes {s:SC} {z:Sst} {r o:Nat} {pc:List UInt8} (B:Box s z H) (hr:r < s.k.n) (ho:o + pc.length<=(z.c r).length)
  (hQ:∀ H' h' b,Took s z r (fill (z.c r) o (pc.take s.lim)) H H' h'->(b=true↔New (z.c r) o (o + (pc.take s.lim).length))->Q (.bool b) H') :
  callN T (d + 2) i_Inbox i_take [.ref s.b,.int (r:Int),.int (o:Int),.bytes pc] H Q E:=by
 refine enter fd_Inbox_take rfl rfl (att B.hb rfl rfl (Lst.mk _ B.hh (ifF (by rw [len_refs];exact Int.not_le.mpr (Int.ofNat_lt.mpr hr)) ?_)))
 refine att B.hb rfl rfl (att B.man.hm rfl rfl (Lst.mk _ B.man.refs (At.mk _ (rng_at hr) (att (B.man.obj hr) rfl rfl (ifF (by rw [B.sz r hr];exact Int.not_lt.mpr (Int.ofNat_le.mpr ho)) ?_)))))
 refine att B.hb rfl rfl ⟨Nat.lt_of_le_of_lt B.l1 (by decide),?_⟩
 exact take_loop (pc:=pc) (p:=pc.take s.lim) B hr (Nat.le_trans (Nat.add_le_add_left (List.length_take_le' _ _) o) ho) hQ
end
end Ab
end
section
namespace Ab
open PySem
def octs (c:Cell):List UInt8:=c.filterMap id
theorem full_map:∀ {c:Cell},¬ holeF c < c.length->(octs c).map some=c
 | [],_=>rfl
 | none::c,h=>absurd (Nat.succ_pos _) h
 | some x::c,h=>congrArg (some x::·) (full_map fun g=>h (Nat.succ_lt_succ g))
theorem octs_map:∀ b:List UInt8,octs (b.map some)=b
 | []=>rfl
 | x::b=>congrArg (x::·) (octs_map b)
theorem cat_map {b:List UInt8} {t:Nat}:cat (b.map some) t=b[t]?:=by
 rw [cat,List.getElem?_map]
 cases b[t]? <;> rfl
theorem str_full:∀ b:List UInt8,((str (b.map some)).map (·.2)).flatten=b
 | []=>rfl
 | x::b=>by
  have e:=strR_bytes (c:=(x::b).map some) (a:=0) (b:=x::b) (fun t y h=>by rw [Nat.zero_add,cat_map];exact h) b.length (Nat.lt_succ_self _)
  rw [Nat.zero_add,show b.length+1=(x::b).length from rfl,List.take_length] at e
  rw [str,List.length_map,e]
  exact List.append_nil _
theorem str_none (k:Nat):str (List.replicate k none)=[]:=by
 rw [str,strR_none (Nat.zero_le _) fun i _ h=>cat_of (by rw [List.getElem?_replicate];exact if_pos (by rw [List.length_replicate] at h;exact h))]
 rfl
noncomputable def gd (s:SC) (z:Sst) (r:Nat):Bool:=decide ((octs (z.c r)).length=(s.k.p r).2.size/\chk (octs (z.c r))=(s.k.p r).2.check)
noncomputable def leftC (s:SC) (z:Sst) (r:Nat):Cell:=bif gd s z r then z.c r else List.replicate (z.c r).length none
noncomputable def bads (s:SC) (z:Sst) (j:Nat):List Nat:=(List.range j).filter fun r=>!gd s z r
section
variable {s:SC} {z:Sst} {j:Nat}
theorem bads_t (h:gd s z j=true):bads s z (j+1)=bads s z j:=by rw [bads,List.range_succ,List.filter_append,List.filter_cons_of_neg (by rw [h];exact Bool.noConfusion)];exact List.append_nil _
theorem bads_f (h:gd s z j=false):bads s z (j+1)=bads s z j++[j]:=by rw [bads,List.range_succ,List.filter_append,List.filter_cons_of_pos (by rw [h];rfl)];rfl
theorem bads_len:(bads s z j).length<=j:=Nat.le_trans (List.length_filter_le _ _) (Nat.le_of_eq List.length_range)
theorem bads_lt {r:Nat} (h:r∈bads s z j):r < j:=List.mem_range.mp (List.mem_filter.mp h).1
end
structure Moved (s:SC) (z z':Sst) (H H':AH):Prop where
 u:Upd [s.hl] H H'
 hh:H'[s.hl]?=some (refs s.k.n z'.h)
 ho:∀ r,r < s.k.n->H'[z'.h r]?=some (pcs (z'.c r))
 nh:∀ r,r < s.k.n->z'.h r=z.h r\/H.length<=z'.h r
structure RuA where
 h:Nat->Nat
 t4:Option AV
 t5:Option AV
 H:AH
structure RuI (s:SC) (z:Sst) (S:List Nat) (H:AH) (j:Nat) (a:RuA):Prop where
 u:Upd S H a.H
 fo:a.H[H.length]?=some (.list ((List.range j).map fun r=>.bytes (octs (z.c r))))
 br:a.H[H.length+1]?=some (.list ((bads s z j).map fun r:Nat=>.int (r:Int)))
 hh:a.H[s.hl]?=some (refs s.k.n a.h)
 ho:∀ r,r < j->a.H[a.h r]?=some (pcs (leftC s z r))
 h0:∀ r,j<=r->r < s.k.n->a.h r=z.h r
 nh:∀ r,r < s.k.n->a.h r=z.h r\/H.length + 2<=a.h r
theorem range_push {α:Type} {f:Nat->α} {j:Nat}:(List.range j).map f++[f j]=(List.range (j+1)).map f:=by rw [List.range_succ,List.map_append];rfl
section
variable {d:Nat} {H:AH} {Q:AV->AH->Prop} {E:Nat->AH->Prop}
theorem miss_lt {c:Nat->Cell} {m:Nat} (hc:∀ r,r < m->(c r).length<=200):∀ (n r:Nat) {p:Nat×Nat},n + r<=m->missF c n r=some p->p.1 < m/\p.2<=200
 | 0,_,_,_,h=>nomatch h
 | n+1,r,p,hr,h=>by
  have lr:r < m:=Nat.lt_of_lt_of_le (Nat.lt_add_of_pos_left (Nat.succ_pos n)) hr
  rcases Decidable.em (holeF (c r) < (c r).length) with g|g
  ·cases (if_pos g).symm.trans h
   exact ⟨lr,Nat.le_trans (Nat.le_of_lt g) (hc r lr)⟩
  ·exact miss_lt hc n (r+1) (by rw [Nat.add_comm r,<-Nat.add_assoc];exact hr) ((if_neg g).symm.trans h)
theorem runs_short {s:SC} {z:Sst} (B:Box s z H) (h:(missF z.c s.k.n 0).isSome=true) (hQ:E i_ShortOctets H):callN T (d + 3) i_Inbox i_runs [.ref s.b] H Q E:=by
 refine enter fd_Inbox_runs rfl rfl (mth B.hb rfl (missing_spec B ?_))
 cases e:missF z.c s.k.n 0 with
 | none=>rw [e] at h;cases h
 | some p =>
  have g:=miss_lt (fun r hr=>B.le hr) _ _ (Nat.le_refl _) e
  exact ⟨rfl,rfl,At.mk _ rfl ⟨fmtN (Nat.le_trans (Nat.le_of_lt g.1) (Nat.le_trans B.man.le (by decide))),At.mk _ rfl ⟨fmtN (Nat.le_trans g.2 (by decide)),hQ⟩⟩⟩
section
variable {s:SC} {z:Sst} {S:List Nat} {j:Nat} {a:RuA}
theorem RuI.upd (J:RuI s z S H j a) {H':AH} {t4 t5:Option AV} (u:Upd [] a.H H'):RuI s z S H j ⟨a.h,t4,t5,H'⟩ :=
 ⟨J.u.trans u.nil,u.get0 J.fo,u.get0 J.br,u.get0 J.hh,fun r hr=>u.get0 (J.ho r hr),J.h0,J.nh⟩
theorem RuI.off (B:Box s z H) (J:RuI s z S H j a) {r:Nat} (hr:r < s.k.n):a.h r≠H.length/\a.h r≠H.length+1/\a.h r≠s.hl:=by
 have l:=(List.getElem?_eq_some_iff.mp (B.ho r hr)).1
 rcases J.nh r hr with h|h
 ·rw [h]
  exact ⟨Nat.ne_of_lt l,Nat.ne_of_lt (Nat.lt_succ_of_lt l),B.ne r hr⟩
 ·have g:=(List.getElem?_eq_some_iff.mp B.hh).1
  exact ⟨Nat.ne_of_gt (Nat.lt_of_lt_of_le (Nat.lt_succ_of_lt (Nat.lt_succ_self _)) h),Nat.ne_of_gt h,Nat.ne_of_gt (Nat.lt_of_lt_of_le (Nat.lt_succ_of_lt (Nat.lt_succ_of_lt g)) h)⟩
theorem left_t (h:gd s z j=true):leftC s z j=z.c j:=by rw [leftC,h];rfl
theorem left_f (h:gd s z j=false):leftC s z j=List.replicate (z.c j).length none:=by rw [leftC,h];rfl
theorem idx {G:AH} {x y:Nat} {o:AObj} (e:x=y) (h:G[y]?=some o):G[x]?=some o:=e▸h
theorem RuI.good (B:Box s z H) (J:RuI s z S H j a) (hj:j < s.k.n) (h:gd s z j=true) (o:a.H[z.h j]?=some (pcs (z.c j))) {t4 t5:Option AV} {b:List UInt8} (e:b=octs (z.c j)) :
  RuI s z S H (j+1) ⟨a.h,t4,t5,a.H.set H.length (.list (((List.range j).map fun r=>.bytes (octs (z.c r)))++[.bytes b]))⟩:=by
 have lh:=(List.getElem?_eq_some_iff.mp B.hh).1
 have ne:=fun {l:Nat} {o o':AObj} (k:l≠H.length) (e:a.H[l]?=some o)=>(List.getElem?_set_ne (a:=o') (Ne.symm k)).trans e
 refine ⟨J.u.fresh (.set (.head _)) (Nat.le_refl _) |>.mono fun _ h=>h,?_,?_,ne (Nat.ne_of_lt lh) J.hh,fun r hr=>?_,fun r h1 h2=>J.h0 r (Nat.le_of_succ_le h1) h2,J.nh⟩
 ·rw [e,range_push (f:=fun r=>AV.bytes (octs (z.c r)))]
  exact getSet J.fo
 ·rw [bads_t h]
  exact ne (Nat.ne_of_gt (Nat.lt_succ_self _)) J.br
 ·have rn:=Nat.lt_of_lt_of_le hr hj
  refine ne (J.off B rn).1 ?_
  exact upto (P:=fun r=>a.H[a.h r]?=some (pcs (leftC s z r))) (by rw [J.h0 j (Nat.le_refl _) hj,left_t h];exact o) hr (J.ho r)
theorem RuI.bad (B:Box s z H) (J:RuI s z S H j a) (hj:j < s.k.n) (h:gd s z j=false) (hS:s.hl∈S) {t4 t5:Option AV} {b:List UInt8} (e:b=octs (z.c j)) :
  RuI s z S H (j+1) ⟨up a.h j a.H.length,t4,t5,(((a.H++[AObj.list []]).set s.hl (refs s.k.n (up a.h j a.H.length))).set (H.length+1) (AObj.list (((bads s z j).map fun r:Nat=>AV.int (r:Int))++[AV.int (j:Int)]))).set H.length (AObj.list (((List.range j).map fun r=>AV.bytes (octs (z.c r)))++[AV.bytes b]))⟩:=by
 have lh:=(List.getElem?_eq_some_iff.mp B.hh).1
 have lk:=(List.getElem?_eq_some_iff.mp J.br).1
 have ap:=fun {l:Nat} {o:AObj} (e:a.H[l]?=some o)=>Upd.get0 (H':=a.H++[AObj.list []]) .app e
 have ne:=fun {l x:Nat} {o o':AObj} {G:AH} (k:l≠x) (e:G[l]?=some o)=>(List.getElem?_set_ne (a:=o') (Ne.symm k)).trans e
 have n1:H.length+1≠H.length:=Nat.ne_of_gt (Nat.lt_succ_self _)
 have n2:=Nat.ne_of_lt lh
 have n3:=Nat.ne_of_lt (Nat.lt_succ_of_lt lh)
 have n4:a.H.length≠H.length:=Nat.ne_of_gt (Nat.lt_of_succ_lt lk)
 have n5:a.H.length≠H.length+1:=Nat.ne_of_gt lk
 have n6:a.H.length≠s.hl:=Nat.ne_of_gt (Nat.lt_trans (Nat.lt_succ_of_lt lh) lk)
 have l3:(a.H++[AObj.list []])[a.H.length]?=some (pcs (leftC s z j)):=by rw [left_f h,pcs,str_none];exact gLast _ _
 refine ⟨?_,?_,?_,ne n2 (ne n3 (getSet (ap J.hh))),fun r hr=>?_,fun r h1 h2=>?_,fun r hr=>?_⟩
 ·exact ((J.u.trans .app).trans (.set hS)).fresh (.set (.head _)) (Nat.le_succ _) |>.fresh (.set (.head _)) (Nat.le_refl _)
 ·rw [e,range_push (f:=fun r=>AV.bytes (octs (z.c r)))]
  exact getSet (ne n1.symm (ne n2.symm (ap J.fo)))
 ·rw [bads_f h,List.map_append]
  exact ne n1 (getSet (ne n3.symm (ap J.br)))
 ·rcases Decidable.em (r=j) with rfl|k
  ·exact idx up_at (ne n4 (ne n5 (ne n6 l3)))
  ·have rj:=Nat.lt_of_le_of_ne (Nat.le_of_lt_succ hr) k
   obtain ⟨k1,k2,k3⟩:=J.off B (Nat.lt_trans rj hj)
   exact idx (up_ne k) (ne k1 (ne k2 (ne k3 (ap (J.ho r rj)))))
 ·exact (up_ne (Nat.ne_of_gt h1)).trans (J.h0 r (Nat.le_of_succ_le h1) h2)
 ·rcases Decidable.em (r=j) with rfl|k
  ·exact .inr (Nat.le_trans lk (Nat.le_of_eq up_at.symm))
  ·exact (J.nh r hr).imp (up_ne k).trans fun l=>Nat.le_trans l (Nat.le_of_eq (up_ne k).symm)
end
end
end Ab
end
section
namespace Ab
open PySem
theorem lenS {H:AH} {o:AObj}:(H++[o]).length=H.length+1:=List.length_append
theorem niT' {P p q:Prop} [Decidable P] (h:decide P=true) (hp:q):ifb (!decide P) p q:=h▸hp
theorem niF' {P p q:Prop} [Decidable P] (h:decide P=false) (hp:p):ifb (!decide P) p q:=h▸hp
section
variable {d:Nat} {H:AH} {Q:AV->AH->Prop} {E:KX}
theorem runs_loop {s:SC} {z:Sst} {S:List Nat} {K:Nat} {H1:AH} (B:Box s z H) (hf:missF z.c s.k.n 0=none) (hfull:∀ r,r < s.k.n->¬ holeF (z.c r) < (z.c r).length) (hS:∀ x∈S,x=s.hl) (hb:∀ r,r < s.k.n->gd s z r=false->s.hl∈S)
  (hK:K=H.length+1) (I0:RuI s z S H 0 ⟨z.h,none,none,H1⟩) (hQ:∀ a,RuI s z S H s.k.n a->vSs T (callN T (d + 2)) b_Inbox_runs_0_5 ⟨[some (.ref s.b),some .none,some (.ref H.length),some (.ref K),a.t4,a.t5],a.H⟩ (retK Q) E) :
  vSs T (callN T (d + 2)) b_Inbox_runs_0_4 ⟨[some (.ref s.b),some .none,some (.ref H.length),some (.ref K),none,none],H1⟩ (retK Q) E:=by
 subst hK
 have nS:∀ {y:Nat},y≠s.hl->y∉S:=fun h q=>h (hS _ q)
 have bn:∀ {G:AH},Upd S H G->G[s.b]?=some (box s.k.m s.lim s.hl):=fun u=>u.get B.hb (nS fun q=>nomatch (q▸B.hb).symm.trans B.hh)
 have man:∀ {G:AH},Upd S H G->Man s.k G:=fun u=>B.man.upd u fun x hx=>hS x hx▸B.hN
 refine att (bn I0.u) rfl rfl (Lst.mk _ I0.hh ?_)
 rw [len_refs]
 refine ⟨B.nl,forN (fun j (a:RuA)=>⟨[some (.ref s.b),some .none,some (.ref H.length),some (.ref (H.length+1)),a.t4,a.t5],a.H⟩) (RuI s z S H) _ I0 (fun j a hj J=>?_) hQ⟩
 have oj:a.H[a.h j]?=some (pcs (z.c j)):=(J.h0 j (Nat.le_refl _) hj)▸J.u.get (B.ho j hj) (nS (B.ne j hj))
 have sl:(str (z.c j)).length<=200:=Nat.le_trans (Nat.le_of_eq List.length_reverse) (Nat.le_trans (strR_len _ _) (B.le hj))
 refine ⟨rfl,att (bn J.u) rfl rfl (Lst.mk _ J.hh (At.mk _ (rng_at hj) (Lst.mk _ oj ?_)))⟩
 refine forL (fun n (y:Option AV×Option AV×AH)=>⟨[y.1,y.2.1],y.2.2⟩) (fun n y=>RowsI a.H (((str (z.c j)).take n).map fun p=>AV.bytes p.2) (none,y.2.2)) (none,none,a.H++[.list []]) ⟨.app,getLast'⟩ (fun n y I=>I.u.get0 oj)
  (fun n x y e I=>?_) (fun y I=>?_)
 ·exact ⟨rfl,Lst.mk _ I.o ⟨len_take sl (by decide),Fxt.mk (_,_,_) rfl (I.push .refl (map_take_succ e))⟩⟩
 have e1:=str_full (octs (z.c j))
 rw [full_map (hfull j hj)] at e1
 have ol:(octs (z.c j)).length<=200:=Nat.le_trans (List.length_filterMap_le _ _) (B.le hj)
 refine ⟨rfl,Lst.mk _ I.o ⟨(str (z.c j)).map (·.2),by rw [List.take_length,List.map_map];rfl,by rw [e1];exact Nat.le_trans ol (by decide),?_⟩⟩
 have J2:=J.upd (t4:=some (.int (j:Int))) (t5:=some (.bytes ((str (z.c j)).map (·.2)).flatten)) I.u
 have oj2:=J2.h0 j (Nat.le_refl _) hj▸I.u.get0 oj
 have M:=man J2.u
 generalize ((str (z.c j)).map (·.2)).flatten=b at *
 have lf:((List.range j).map fun r=>AV.bytes (octs (z.c r))).length < LIM:=Nat.lt_of_le_of_lt (Nat.le_trans (Nat.le_of_eq len_refs) (Nat.le_trans (Nat.le_of_lt hj) B.man.le)) (by decide)
 have lb:((bads s z j).map fun r:Nat=>AV.int (r:Int)).length < LIM:=Nat.lt_of_le_of_lt (Nat.le_trans (Nat.le_of_eq (List.length_map _)) (Nat.le_trans bads_len (Nat.le_trans (Nat.le_of_lt hj) B.man.le))) (by decide)
 refine att (bn J2.u) rfl rfl (att M.hm rfl rfl (Lst.mk _ M.refs (At.mk _ (rng_at hj) (mth (M.obj hj) rfl (ri_fits (M.obj hj) (e1▸ol) ?_)))))
 cases g:gd s z j with
 | true =>
  refine niT' (by rw [e1];exact g) ?_
  exact ⟨Lst.mk _ J2.fo trivial,Lst.mk _ J2.fo ⟨lf,Fxt.mk ⟨_,_,_,_⟩ rfl (J2.good B hj g oj2 e1)⟩⟩
 | false =>
  have lh:=(List.getElem?_eq_some_iff.mp B.hh).1
  have ap:=fun {l:Nat} {o:AObj} (e:y.2.2[l]?=some o)=>Upd.get0 (H':=y.2.2++[AObj.list []]) .app e
  have ne:=fun {l x:Nat} {o o':AObj} {G:AH} (k:l≠x) (e:G[l]?=some o)=>(List.getElem?_set_ne (a:=o') (Ne.symm k)).trans e
  refine niF' (by rw [e1];exact g) (att (ap (bn J2.u)) rfl rfl (Lst.mk _ (ap J2.hh) ⟨len_refs.symm▸hj,?_⟩))
  rw [rng_set (g:=AV.ref)]
  have br:=ne (o':=refs s.k.n (up a.h j y.2.2.length)) (Nat.ne_of_gt (Nat.lt_succ_of_lt lh)) (ap J2.br)
  have fo:=ne (x:=H.length+1) (o':=.list (((bads s z j).map fun r:Nat=>.int (r:Int))++[.int (j:Int)])) (Nat.ne_of_lt (Nat.lt_succ_self _)) (ne (o':=refs s.k.n (up a.h j y.2.2.length)) (Nat.ne_of_gt lh) (ap J2.fo))
  exact ⟨Lst.mk _ br trivial,Lst.mk _ br ⟨lb,Lst.mk _ fo trivial,Lst.mk _ fo ⟨lf,Fxt.mk ⟨_,_,_,_⟩ rfl (J2.bad B hj g (hb j hj g) e1)⟩⟩⟩
variable {E:Nat->AH->Prop}
theorem gd_all {s:SC} {z:Sst} (h:∀ r,r < s.k.n->gd s z r=true):bads s z s.k.n=[]:=List.filter_eq_nil_iff.mpr fun r hr=>by rw [h r (List.mem_range.mp hr)];exact Bool.noConfusion
theorem miss_none {c:Nat->Cell}:∀ (n r:Nat),missF c n r=none->∀ i,i < n->¬ holeF (c (r + i)) < (c (r + i)).length
 | n+1,r,h,i,hi=>by
  rcases Decidable.em (holeF (c r) < (c r).length) with g|g
  ·exact nomatch (if_pos g).symm.trans h
  ·cases i with
   | zero=>exact g
   | succ i =>
    have:=miss_none n (r+1) ((if_neg g).symm.trans h) i (Nat.lt_of_succ_lt_succ hi)
    rw [Nat.add_right_comm] at this
    exact this
theorem miss_full {c:Nat->Cell} {n:Nat} (h:missF c n 0=none) {r:Nat} (hr:r < n):¬ holeF (c r) < (c r).length:=by
 have:=miss_none n 0 h r hr
 rw [Nat.zero_add] at this
 exact this
theorem runs_good {s:SC} {z:Sst} (B:Box s z H) (hf:missF z.c s.k.n 0=none) (hg:∀ r,r < s.k.n->gd s z r=true) (hQ:∀ H',Upd [] H H'->H'[H.length]?=some (.list ((List.range s.k.n).map fun r=>.bytes (octs (z.c r))))->Q (.ref H.length) H') :
  callN T (d + 3) i_Inbox i_runs [.ref s.b] H Q E:=by
 have u0:Upd [] H (H++[AObj.list []]++[AObj.list []]):=.trans .app .app
 refine enter fd_Inbox_runs rfl rfl (mth B.hb rfl (missing_spec B ?_))
 rw [hf]
 refine ⟨rfl,runs_loop (S:=[]) B hf (fun r hr=>miss_full hf hr) (fun _ h=>nomatch h) (fun r hr h=>nomatch (hg r hr).symm.trans h) lenS ⟨u0,Upd.get0 .app (gLast _ _),?_,u0.get0 B.hh,fun _ h=>absurd h (Nat.not_lt_zero _),fun _ _ _=>rfl,fun _ _=>.inl rfl⟩ fun a J=>?_⟩
 ·exact idx lenS.symm (gLast _ _)
 ·have br:=idx (lenS (o:=.list [])) J.br
  rw [gd_all hg] at br
  exact Lst.mk _ br (hQ _ J.u J.fo)
theorem runs_bad {s:SC} {z:Sst} (B:Box s z H) (hf:missF z.c s.k.n 0=none) {r:Nat} (hr:r < s.k.n) (hg:gd s z r=false) (hQ:∀ H' h',Moved s z ⟨h',z.l,leftC s z,z.f⟩ H H'->E i_Corrupt H') :
  callN T (d + 3) i_Inbox i_runs [.ref s.b] H Q E:=by
 have u0:Upd [] H (H++[AObj.list []]++[AObj.list []]):=.trans .app .app
 refine enter fd_Inbox_runs rfl rfl (mth B.hb rfl (missing_spec B ?_))
 rw [hf]
 refine ⟨rfl,runs_loop (S:=[s.hl]) B hf (fun r hr=>miss_full hf hr) (fun _ h=>List.mem_singleton.mp h) (fun r hr h=>.head _) lenS ⟨u0.nil,Upd.get0 .app (gLast _ _),?_,u0.get0 B.hh,fun _ h=>absurd h (Nat.not_lt_zero _),fun _ _ _=>rfl,fun _ _=>.inl rfl⟩ fun a J=>?_⟩
 ·exact idx lenS.symm (gLast _ _)
 ·have br:=idx (lenS (o:=.list [])) J.br
  have l0:0 < (bads s z s.k.n).length:=List.length_pos_of_mem (List.mem_filter.mpr ⟨List.mem_range.mpr hr,by rw [hg];rfl⟩)
  refine Lst.mk _ br (ifT (by rw [List.length_map];exact Int.ofNat_lt.mpr l0) ⟨rfl,Lst.mk _ br ⟨(bads s z s.k.n).map fun r:Nat=>(r:Int),by rw [List.map_map];rfl,by rw [List.length_map];exact Nat.le_trans bads_len (Nat.le_trans B.man.le (by decide)),fun i hi=>?_⟩,hQ _ a.h ⟨J.u,J.hh,J.ho,fun r hr=>(J.nh r hr).imp id fun h=>Nat.le_trans (Nat.le_add_right _ 2) h⟩⟩)
  obtain ⟨r,h,rfl⟩:=List.mem_map.mp hi
  exact ⟨Int.lt_of_lt_of_le (by decide) (Int.natCast_nonneg r),Int.lt_trans (Int.ofNat_lt.mpr (bads_lt h)) (Int.lt_of_le_of_lt (Int.ofNat_le.mpr B.man.le) (by decide))⟩
end
end Ab
end
section
namespace Ab
open PySem
structure Made (k:MC) (lim b hl n:Nat) (h:Nat->Nat) (H H':AH):Prop where
 u:Upd [] H H'
 hb:H'[b]?=some (box k.m lim hl)
 hh:H'[hl]?=some (refs n h)
 ho:∀ r,r < n->H'[h r]?=some (.list [])/\hl < h r
structure MdA where
 h:Nat->Nat
 t:Option AV
 H:AH
section
variable {d:Nat} {H:AH} {Q:AV->AH->Prop} {E:Nat->AH->Prop}
theorem getNe {l x:Nat} {o o':AObj} {G:AH} (k:l≠x) (e:G[l]?=some o):(G.set x o')[l]?=some o:=(List.getElem?_set_ne k.symm).trans e
theorem ltOf {l:Nat} {o:AObj} {G:AH} (e:G[l]?=some o):l < G.length:=(List.getElem?_eq_some_iff.mp e).1
theorem getApp {l:Nat} {o:AObj} {G G':AH} (e:G[l]?=some o):(G++G')[l]?=some o:=Upd.get0 .app e
theorem box_loop {k:MC} {lim hl:Nat} {G:AH} {E:KX} (M:Man k H) (h0:H.length < hl) (I0:Made k lim H.length hl 0 (fun _=>0) H G) (hQ:∀ H' h,Made k lim H.length hl k.n h H H'->Q .none H') :
  vSs T (callN T d) b_Inbox_init_0_4 ⟨[some (.ref H.length),some (.ref k.m),some (.int (lim:Int)),none],G⟩ (retK Q) E:=by
 have M0:=M.upd0 I0.u
 refine att M0.hm rfl rfl (Lst.mk _ M0.refs ?_)
 refine forL (fun j (a:MdA)=>⟨[some (.ref H.length),some (.ref k.m),some (.int (lim:Int)),a.t],a.H⟩) (fun j a=>Made k lim H.length hl j a.h H a.H) ⟨fun _=>0,none,G⟩ I0 (fun n a J=>(M.upd0 J.u).refs) (fun j r a e J=>?_) (fun a J=>?_)
 ·have hj:j < k.n:=(List.getElem?_eq_some_iff.mp e).1 |> fun h=>List.length_range (n:=k.n)▸h
  have lh:=ltOf J.hh
  have nh:=Nat.ne_of_gt h0
  refine att J.hb rfl rfl ⟨Lst.mk _ J.hh trivial,Lst.mk _ (getApp J.hh) ⟨Nat.lt_of_le_of_lt (Nat.le_trans (Nat.le_of_eq len_refs) (Nat.le_trans (Nat.le_of_lt hj) M.le)) (by decide),Fxt.mk ⟨up a.h j a.H.length,_,_⟩ rfl ⟨(J.u.trans .app).fresh (.set (.head _)) (Nat.le_of_lt h0),getNe nh.symm (getApp J.hb),?_,fun r hr=>?_⟩⟩⟩
  ·have e2:((List.range j).map fun r=>AV.ref (a.h r))++[AV.ref a.H.length]=(List.range (j+1)).map fun r=>AV.ref (up a.h j a.H.length r):=by
    rw [<-range_push (f:=fun r=>AV.ref (up a.h j a.H.length r)),up_at]
    exact congrArg (·++_) (List.map_congr_left fun r h=>congrArg AV.ref (up_ne (Nat.ne_of_lt (List.mem_range.mp h))).symm)
   rw [refs,<-e2]
   exact getSet (getApp J.hh)
  ·rcases Decidable.em (r=j) with rfl|q
   ·exact ⟨idx up_at (getNe (Nat.ne_of_gt lh) (gLast _ _)),Nat.lt_of_lt_of_le lh (Nat.le_of_eq up_at.symm)⟩
   ·obtain ⟨o1,o2⟩:=J.ho r (Nat.lt_of_le_of_ne (Nat.le_of_lt_succ hr) q)
    exact ⟨idx (up_ne q) (getNe (Nat.ne_of_gt o2) (getApp o1)),Nat.lt_of_lt_of_le o2 (Nat.le_of_eq (up_ne q).symm)⟩
 ·rw [List.length_range] at J
  exact hQ _ _ J
theorem box_init {k:MC} {lim:Nat} (M:Man k H) (l0:0 < lim) (hQ:∀ H' hl h,H.length < hl->Made k lim H.length hl k.n h H H'->Q .none H') :
  callN T (d+1) i_Inbox 1 [.ref H.length,.ref k.m,.int (lim:Int)] (H++[.inst i_Inbox []]) Q E:=by
 have e2:=getSet (o:=.inst i_Inbox [(i_manifesto,.ref k.m),(i_piece_limit,.int (lim:Int))]) (getSet (o:=.inst i_Inbox [(i_manifesto,.ref k.m)]) (getLast' (H:=H) (o:=.inst i_Inbox [])))
 have lt:=ltOf e2
 refine enter fd_Inbox_init rfl rfl (ifF (Int.not_lt.mpr (Int.ofNat_le.mpr l0)) (sta getLast' rfl (sta (getSet getLast') rfl (sta (getApp e2) rfl ?_))))
 exact box_loop M lt ⟨(((Upd.app.fresh (.set (.head _)) (Nat.le_refl _)).fresh (.set (.head _)) (Nat.le_refl _)).trans .app).fresh (.set (.head _)) (Nat.le_refl _),getSet (getApp e2),getNe (Nat.ne_of_gt lt) (gLast _ _),fun _ h=>absurd h (Nat.not_lt_zero _)⟩ fun H' h J=>hQ _ _ _ lt J
end
end Ab
end
section
namespace Ab
open PySem
noncomputable abbrev natL (nums:List Nat):AObj:=.list (nums.map fun n:Nat=>AV.int (n:Int))
noncomputable abbrev oL (b:List UInt8):AObj:=.list (octInts b)
theorem oct_len {b:List UInt8}:(octInts b).length=b.length:=List.length_map _
theorem oct_app (a b:List UInt8):octInts a++octInts b=octInts (a++b):=List.map_append.symm
theorem one_oct {n:Nat} (h:n < 256):[AV.int (n:Int)]=octInts [UInt8.ofNat n]:=congrArg (fun k:Nat=>[AV.int (k:Int)]) (ofNat_toNat h).symm
theorem fix_oct {n:Nat} (h:n < 4294967296):[AV.int ((n % 256:Nat):Int),.int ((n / 256 % 256:Nat):Int),.int ((n / 65536 % 256:Nat):Int),.int ((n / 16777216:Nat):Int)]=octInts (fix n):=by
 have l:∀ k,k % 256 < 256:=fun k=>Nat.mod_lt _ (by decide)
 have e:octInts (fix n)=[AV.int ((UInt8.ofNat (n % 256)).toNat:Int),.int ((UInt8.ofNat (n / 256 % 256)).toNat:Int),.int ((UInt8.ofNat (n / 65536 % 256)).toNat:Int),.int ((UInt8.ofNat (n / 16777216)).toNat:Int)]:=rfl
 rw [e,ofNat_toNat (l _),ofNat_toNat (l _),ofNat_toNat (l _),ofNat_toNat (Nat.div_lt_of_lt_mul h)]
section
variable {α β:Type} {body:AV->St->(St->Prop)->Prop} {k:St->Prop} (s:Nat->α->St) (I:Nat->α->Prop) (a:α)
theorem forT {f:β->AV} {xs:List β} (h:I 0 a) (step:∀ n x a,xs[n]?=some x->I n a->body (f x) (s n a) (Fxt s I (n+1)))
  (fin:∀ a,I xs.length a->k (s xs.length a)):ForI (xs.map f) none body (s 0 a) k :=
 forR s I a h (fun n v a e J=>⟨trivial,by
  rw [List.getElem?_map] at e
  obtain ⟨x,hx,rfl⟩:=Option.map_eq_some_iff.mp e
  exact step n x a hx J⟩) fun a J=>by
  rw [List.length_map] at J ⊢
  exact ⟨trivial,fin a J⟩
end
theorem ltApp' (H:AH) {o:AObj}:H.length < (H++[o]).length:=List.length_append▸Nat.lt_succ_self _
theorem draw_lt {y q:Nat} (h1:y < 999983) (h2:q<=1000):y + 7919 * q < 10000000:=Nat.lt_of_lt_of_le (Nat.add_lt_add_of_lt_of_le h1 (Nat.mul_le_mul_left 7919 h2)) (by decide)
section
variable {d:Nat} {H:AH} {Q:AV->AH->Prop} {E:Nat->AH->Prop}
theorem draw_spec {l:Nat} {nums:List Nat} {i:Nat} (h1:H[l]?=some (natL nums)) (h0:0 < nums.length) (hl:nums.length<=100) (hn:∀ n∈nums,n < 999983) (hi:i<=1000) (hQ:∀ x:Nat,x < 10000000->Q (.int (x:Int)) H) :
  callN T (d+1) 0 i_law_draw [.ref l,.int (i:Int)] H Q E:=by
 have lm:(nums.map fun n:Nat=>AV.int (n:Int)).length=nums.length:=List.length_map _
 refine enter fd_law_draw rfl rfl (Lst.mk _ h1 ?_)
 rw [lm]
 have hlt:=Nat.mod_lt i h0
 have hx:nums[i % nums.length]?=some nums[i % nums.length]:=List.getElem?_eq_getElem hlt
 have hm:=hn _ (List.getElem_mem hlt)
 generalize nums[i % nums.length]=y at hx hm
 refine ⟨Int.ofNat_lt.mpr h0,Lst.mk _ h1 (At.mk (.int (y:Int)) (by rw [List.getElem?_map];exact congrArg (Option.map _) hx) (Lst.mk _ h1 ?_))⟩
 rw [lm]
 have hq:i / nums.length<=1000:=Nat.le_trans (Nat.div_le_self _ _) hi
 exact ⟨⟨Int.ofNat_lt.mpr h0,Int.ofNat_lt.mpr (Nat.lt_of_le_of_lt hl (by decide))⟩,by decide,bigN (n:=i / nums.length) (Nat.lt_of_le_of_lt hq (by decide)),hQ _ (draw_lt hm hq)⟩
theorem field_spec {y:Nat} (hQ:∀ n:Nat,n < 18446744073709551616->Q (.int (n:Int)) H):callN T (d+1) 0 i_law_field [.int (y:Int)] H Q E:=by
 refine enter fd_law_field rfl rfl ⟨by decide,?_⟩
 rcases Decidable.em (y % 5=4) with h|h
 ·have K:∀ r,r < 7->At [AV.int 127,.int 128,.int 255,.int 256,.int 16384,.int 4294967296,.int 18446744073709551615] r (fun v=>Q v H):=fun
   | 0,_=>At.mk _ rfl (hQ 127 (by decide))
   | 1,_=>At.mk _ rfl (hQ 128 (by decide))
   | 2,_=>At.mk _ rfl (hQ 255 (by decide))
   | 3,_=>At.mk _ rfl (hQ 256 (by decide))
   | 4,_=>At.mk _ rfl (hQ 16384 (by decide))
   | 5,_=>At.mk _ rfl (hQ 4294967296 (by decide))
   | 6,_=>At.mk _ rfl (hQ 18446744073709551615 (by decide))
  exact ifT (congrArg Nat.cast h) ⟨by decide,by decide,K _ (Nat.mod_lt _ (by decide))⟩
 ·exact ifF (fun g=>h (Int.ofNat_inj.mp g)) ⟨by decide,by decide,hQ _ (Nat.lt_trans (Nat.mod_lt _ (by decide)) (by decide))⟩
theorem sum_o {a b:List UInt8} (h:a.length + b.length<=LIM):(octInts a).length + (octInts b).length<=LIM:=by rw [oct_len,oct_len];exact h
theorem number_spec:∀ (k:Nat) {n d:Nat} {H:AH} {Q:AV->AH->Prop} {E:Nat->AH->Prop},n < 2 ^ (7 * (k+1))->n < 18446744073709551616->(∀ H' l,Upd [] H H'->H'[l]?=some (oL (enc n))->H.length<=l->Q (.ref l) H')->callN T (d + (k+1)) 0 i_law_number [.int (n:Int)] H Q E
 | 0,n,d,H,Q,E,hn,_,hQ=>by
  have hn:n < 128:=hn
  refine enter fd_law_number rfl rfl (ifT (Int.ofNat_lt.mpr hn) (hQ _ _ .app ?_ (Nat.le_refl _)))
  rw [enc_lt hn,oL,<-one_oct (Nat.lt_trans hn (by decide))]
  exact getLast'
 | k+1,n,d,H,Q,E,hn,h64,hQ=>by
  rcases Nat.lt_or_ge n 128 with h|h
  ·refine enter fd_law_number rfl rfl (ifT (Int.ofNat_lt.mpr h) (hQ _ _ .app ?_ (Nat.le_refl _)))
   rw [enc_lt h,oL,<-one_oct (Nat.lt_trans h (by decide))]
   exact getLast'
  ·have h2:n / 128 < 18446744073709551616:=Nat.lt_of_le_of_lt (Nat.div_le_self _ _) h64
   refine enter fd_law_number rfl rfl (ifF (Int.not_lt.mpr (Int.ofNat_le.mpr h)) ⟨by decide,rfl,by decide,number_spec k ((Nat.div_lt_iff_lt_mul (by decide)).mpr (Nat.pow_add 2 (7 * (k+1)) 7▸hn)) h2 fun H1 l u1 g1 hl=>?_⟩)
   have g0:=u1.get0 (getLast' (H:=H) (o:=AObj.list [AV.int ((n % 128+128:Nat):Int)]))
   rw [one_oct lt256] at g0
   have q:∀ L,L=octInts (enc n)->Q (.ref H1.length) (H1++[.list L]):=fun L e=>e▸hQ _ _ ((Upd.app.trans u1).trans .app) getLast' (Nat.le_trans (Nat.le_of_lt (ltApp' H)) u1.le)
   exact Lst.mk _ g0 (Lst.mk _ g1 ⟨sum_o (Nat.le_trans (Nat.add_le_add_left (enc_len64 h2) _) (Nat.le_of_ble_eq_true rfl)),q _ ((oct_app _ _).trans (congrArg octInts (enc_ge h).symm))⟩)
theorem text_spec {b:List UInt8} (hb:b.length<=1000) (hQ:∀ H' l,Upd [] H H'->H'[l]?=some (oL (enc b.length++b))->H.length<=l->Q (.ref l) H'):callN T (d+11) 0 i_law_text [.bytes b] H Q E:=by
 have l64:b.length < 18446744073709551616:=Nat.lt_of_le_of_lt hb (by decide)
 refine enter fd_law_text rfl rfl ⟨rfl,number_spec 9 (Nat.lt_of_lt_of_le l64 (by decide)) l64 fun H1 l u1 g1 hl=>?_⟩
 have q:∀ L,L=octInts (enc b.length++b)->Q (.ref (H1++[oL b]).length) (H1++[oL b]++[.list L]):=fun L e=>e▸hQ _ _ ((u1.trans .app).trans .app) getLast' (Nat.le_trans u1.le (Nat.le_of_lt (ltApp' H1)))
 exact Lst.mk _ (getApp g1) (Lst.mk _ getLast' ⟨sum_o (Nat.le_trans (Nat.add_le_add (enc_len64 l64) hb) (by decide)),q _ (oct_app _ _)⟩)
end
end Ab
end
section
namespace Ab
open PySem
structure Oc (t:List UInt8) (H0:AH) (lo:Nat) (b w:List UInt8) (H:AH):Prop where
 u:Upd [] H0 H
 ho:H[lo]?=some (oL b)
 lo:H0.length<=lo
 e:b++w=t
 le:t.length<=100000
section
variable {t b c w w':List UInt8} {H0 H H1:AH} {lo:Nat}
theorem Oc.cast (J:Oc t H0 lo b w H) (e:w=w'):Oc t H0 lo b w' H:=e▸J
theorem Oc.room (J:Oc t H0 lo b (c++w) H):b.length + c.length<=LIM:=Nat.le_trans (by
 rw [<-J.e,List.length_append,List.length_append,<-Nat.add_assoc]
 exact Nat.le_add_right _ _) (Nat.le_trans J.le (by decide))
theorem Oc.add (J:Oc t H0 lo b (c++w) H) (u:Upd [] H H1):Oc t H0 H1.length (b++c) w (H1++[.list (octInts b++octInts c)]) :=
 ⟨(J.u.trans u).trans .app,getLast'.trans (congrArg (fun L=>some (AObj.list L)) (oct_app b c)),Nat.le_trans J.u.le u.le,by rw [List.append_assoc];exact J.e,J.le⟩
theorem Oc.put (J:Oc t H0 lo b (c++w) H) (u:Upd [] H H1) {L:List AV} (hL:L=octInts c):Oc t H0 lo (b++c) w (H1.set lo (.list (octInts b++L))) :=
 ⟨(J.u.trans u).fresh (.set (.head _)) J.lo,by rw [hL,oct_app];exact getSet (u.get0 J.ho),J.lo,by rw [List.append_assoc];exact J.e,J.le⟩
theorem Oc.ne (J:Oc t H0 lo b w H) {l:Nat} (h:H.length<=l):l≠lo:=Nat.ne_of_gt (Nat.lt_of_lt_of_le (ltOf J.ho) h)
end
theorem Oc.one {t b c w:List UInt8} {H0 H:AH} {lo:Nat} (J:Oc t H0 lo b (c++w) H) (h:0 < c.length):(octInts b).length < LIM:=Nat.lt_of_lt_of_le (Nat.lt_add_of_pos_right h) (oct_len.symm▸J.room)
structure OcA where
 t2:Option AV
 t3:Option AV
 t4:Option AV
 t5:Option AV
 t6:Option AV
 H:AH
 b:List UInt8
section
variable {d:Nat} {H:AH} {Q:AV->AH->Prop} {E:Nat->AH->Prop}
theorem num_spec {n:Nat} (h:n < 18446744073709551616) (hQ:∀ H' l,Upd [] H H'->H'[l]?=some (oL (enc n))->H.length<=l->Q (.ref l) H'):callN T (d+10) 0 i_law_number [.int (n:Int)] H Q E:=number_spec 9 (Nat.lt_of_lt_of_le h (by decide)) h hQ
theorem octets_spec {mf:MF} (ok:mf.Ok) (hQ:∀ H' l,Upd [] H H'->H'[l]?=some (oL mf.enc)->Q (.ref l) H'):callN T (d+12) 0 i_law_octets [mf.row] H Q E:=by
 refine enter fd_law_octets rfl rfl ⟨rfl,At.mk _ rfl (num_spec ok.index fun H1 l1 u1 g1 hl1=>⟨rfl,At.mk _ rfl ?_⟩)⟩
 have J1:Oc mf.enc H l1 (enc mf.index) (enc mf.term++(enc mf.seq++((enc mf.conf.length++mf.conf)++(enc mf.runs.length++(mf.runs.map RI.enc).flatten)))) H1:=⟨u1,g1,hl1,rfl,ok.encLen⟩
 refine num_spec ok.term fun H2 l2 u2 g2 _=>Lst.mk _ (u2.get0 J1.ho) (Lst.mk _ g2 ⟨sum_o J1.room,?_⟩)
 have J2:=J1.add u2
 refine ⟨rfl,At.mk _ rfl (num_spec ok.sq fun H3 l3 u3 g3 _=>Lst.mk _ (u3.get0 J2.ho) (Lst.mk _ g3 ⟨sum_o J2.room,?_⟩))⟩
 have J3:=J2.add u3
 refine ⟨rfl,At.mk _ rfl (text_spec (Nat.le_trans ok.conf (by decide)) fun H4 l4 u4 g4 _=>Lst.mk _ (u4.get0 J3.ho) (Lst.mk _ g4 ⟨sum_o J3.room,?_⟩))⟩
 have J4:=J3.add u4
 have el:(mf.runs.map fun r=>AV.tup r.vals).length=mf.runs.length:=List.length_map _
 have J4:=J4.cast (w':=enc (mf.runs.map fun r=>AV.tup r.vals).length++(mf.runs.map RI.enc).flatten) (by rw [el])
 have ln:(mf.runs.map fun r=>AV.tup r.vals).length < 18446744073709551616:=el▸ok.ln
 refine ⟨rfl,At.mk _ rfl ?_⟩
 refine num_spec ln fun H5 l5 u5 g5 _=>Lst.mk _ (u5.get0 J4.ho) (Lst.mk _ g5 ⟨sum_o J4.room,?_⟩)
 have J5:=J4.add u5
 refine At.mk _ rfl ?_
 refine forT (fun j (a:OcA)=>⟨[some mf.row,some (.ref H5.length),a.t2,a.t3,a.t4,a.t5,a.t6],a.H⟩) (fun j a=>Oc mf.enc H H5.length a.b ((mf.runs.drop j).map RI.enc).flatten a.H) ⟨_,_,_,_,_,_,_⟩ J5 (fun j x a e J=>?_) fun a J=>?_
 ·have rok:=ok.runs x (List.mem_of_getElem? e)
  have Ja:=J.cast (w':=x.enc++((mf.runs.drop (j+1)).map RI.enc).flatten) (by rw [drop_at e];rfl) |>.cast (x.enc_app _)
  have Ja:=Ja.cast (w':=[UInt8.ofNat x.level]++_) (by rw [enc_lt (Nat.lt_trans rok.level (by decide))])
  refine ⟨rfl,Lst.mk _ Ja.ho trivial,Lst.mk _ Ja.ho ⟨Ja.one Nat.one_pos,?_⟩⟩
  have Jb:=Ja.put .refl (one_oct (Nat.lt_trans rok.level (by decide)))
  refine ⟨Lst.mk _ Jb.ho trivial,rfl,num_spec rok.siz fun Hc l u g hl=>Lst.mk _ (u.get0 Jb.ho) (Lst.mk _ g ⟨⟨Jb.ne hl,sum_o Jb.room⟩,?_⟩)⟩
  have Jc:=Jb.put u rfl
  refine ⟨Lst.mk _ Jc.ho trivial,⟨by decide,⟨by decide,by decide,⟨by decide,by decide,⟨by decide,?_⟩⟩⟩⟩⟩
  refine Lst.mk _ (getApp Jc.ho) (Lst.mk _ getLast' ⟨⟨Jc.ne (Nat.le_refl _),Nat.le_trans (Nat.le_of_eq (congrArg (· + 4) oct_len)) Jc.room⟩,?_⟩)
  have Jd:=Jc.put (.app (G:=[.list [AV.int ((x.check % 256:Nat):Int),.int ((x.check / 256 % 256:Nat):Int),.int ((x.check / 65536 % 256:Nat):Int),.int ((x.check / 16777216:Nat):Int)]])) (fix_oct rok.check)
  refine ⟨Lst.mk _ Jd.ho trivial,rfl,text_spec (Nat.le_trans rok.small (by decide)) fun He l u g hl=>Lst.mk _ (u.get0 Jd.ho) (Lst.mk _ g ⟨⟨Jd.ne hl,sum_o Jd.room⟩,?_⟩)⟩
  have Je:=Jd.put u rfl
  refine ⟨Lst.mk _ Je.ho trivial,rfl,text_spec (Nat.le_trans rok.large (by decide)) fun Hf l u g hl=>Lst.mk _ (u.get0 Je.ho) (Lst.mk _ g ⟨⟨Je.ne hl,sum_o Je.room⟩,?_⟩)⟩
  exact Fxt.mk ⟨_,_,_,_,_,_,_⟩ rfl (Je.put u rfl)
 ·refine hQ _ _ J.u ?_
  have e:=J.e
  rw [List.drop_length] at e
  exact (J.ho.trans (congrArg (fun b=>some (oL b)) ((List.append_nil _).symm.trans e)))
end
end Ab
end
section
namespace Ab
open PySem
structure MdaA where
 rs:List (Nat×RI)
 t:Option AV
 H:AH
structure MdaI (mf:MF) (H:AH) (j:Nat) (a:MdaA):Prop where
 u:Upd [] H a.H
 o:a.H[H.length]?=some (.list (a.rs.map fun p=>.ref p.1))
 ho:∀ p∈a.rs,a.H[p.1]?=some p.2.obj/\H.length < p.1
 eq:a.rs.map (·.2)=mf.runs.take j
theorem MdaI.len {mf:MF} {H:AH} {j:Nat} {a:MdaA} (I:MdaI mf H j a):a.rs.length<=mf.runs.length:=by
 have e:=congrArg List.length I.eq
 rw [List.length_map,List.length_take] at e
 exact e▸Nat.min_le_right _ _
theorem MdaI.step {mf:MF} {H:AH} {j:Nat} {a:MdaA} {x:RI} {t:Option AV} (I:MdaI mf H j a) (e:mf.runs[j]?=some x) :
  MdaI mf H (j+1) ⟨a.rs++[(a.H.length,x)],t,(a.H++[x.obj]).set H.length (.list ((a.rs.map fun p=>.ref p.1)++[.ref a.H.length]))⟩:=by
 have lo:=ltOf I.o
 refine ⟨Upd.fresh (I.u.trans .app) (.set (.head _)) (Nat.le_refl _),?_,fun p hp=>?_,?_⟩
 ·rw [List.map_append]
  exact getSet (getApp I.o)
 ·rcases List.mem_append.mp hp with hp|hp
  ·obtain ⟨h1,h2⟩:=I.ho p hp
   exact ⟨getNe (Nat.ne_of_gt h2) (getApp h1),h2⟩
  ·obtain rfl:=List.mem_singleton.mp hp
   exact ⟨getNe (Nat.ne_of_gt lo) getLast',lo⟩
 ·rw [List.take_add_one,e,List.map_append,I.eq]
  rfl
theorem man_new {G:AH} {r:Nat} {rs:List (Nat×RI)} {mf:MF} (hr:G[r]?=some (.list (rs.map fun p=>.ref p.1))) (ho:∀ p∈rs,G[p.1]?=some p.2.obj) (eq:rs.map (·.2)=mf.runs) (ok:mf.Ok):Man ⟨(G++[mf.obj r]).length,G.length,r,mf,rs⟩ (G++[mf.obj r]) :=
 ⟨getLast',getApp hr,fun p hp=>getApp (ho p hp),ltApp' G,ltApp hr,fun p hp=>ltApp (ho p hp),eq,ok⟩
section
variable {d:Nat} {H:AH} {Q:AV->AH->Prop} {E:Nat->AH->Prop}
theorem made_spec {mf:MF} (ok:mf.Ok) (hQ:∀ H' k,Upd [] H H'->Man k H'->k.mf=mf->k.N=H'.length->Q (.ref k.m) H'):callN T (d + 2) 0 i_law_made [mf.row] H Q E:=by
 refine enter fd_law_made rfl rfl (At.mk _ rfl ?_)
 refine forT (fun j (a:MdaA)=>⟨[a.t],a.H⟩) (MdaI mf H) ⟨[],none,H++[.list []]⟩ ⟨.app,getLast',(fun _ h=>nomatch h),rfl⟩ (fun j x a e I=>?_) fun a I=>?_
 ·refine ⟨rfl,At.mk _ rfl (At.mk _ rfl (At.mk _ rfl (At.mk _ rfl (At.mk _ rfl (ri_init x ⟨rfl,Lst.mk _ (getApp I.o) ⟨?_,Fxt.mk ⟨_,_,_⟩ rfl (I.step e)⟩⟩)))))⟩
  rw [List.length_map]
  exact Nat.lt_of_le_of_lt (Nat.le_trans I.len ok.len) (by decide)
 ·have eq:=I.eq
  rw [List.take_length] at eq
  exact ⟨rfl,At.mk _ rfl (At.mk _ rfl (At.mk _ rfl (At.mk _ rfl (mf_init mf ⟨rfl,hQ _ _ (I.u.trans .app) (man_new I.o (fun p hp=>(I.ho p hp).1) eq ok) rfl rfl⟩))))⟩
theorem read_spec {mf:MF} (ok:mf.Ok) {b:List UInt8} (e:b=mf.enc) (hQ:∀ H' k,Upd [] H H'->Man k H'->k.mf=mf->k.N=H'.length->Q (.ref k.m) H'):callN T (d + 6) 0 i_law_read [.bytes b] H Q E:=by
 subst e
 exact enter fd_law_read rfl rfl ⟨rfl,mf_decode ok ok.encLen (cut:=[]) (ex:=[]) rfl (.inl rfl) (fun _ _=>hQ) (fun z=>absurd rfl z) fun z=>absurd rfl z⟩
theorem why_short {mf:MF} (ok:mf.Ok) {b cut:List UInt8} (e:b++cut=mf.enc) (hc:cut≠[]) (hQ:∀ H',Upd [] H H'->Q (.str "short") H'):callN T (d + 6) 0 i_law_why [.bytes b] H Q E:=by
 have l:b.length<=100000:=Nat.le_trans (by rw [<-e,List.length_append];exact Nat.le_add_right _ _) ok.encLen
 exact enter fd_law_why rfl rfl ⟨rfl,mf_decode ok l (cut:=cut) (ex:=[]) (e.trans (List.append_nil _).symm) (.inr rfl) (fun z=>absurd z hc) (fun _ H' u=>⟨rfl,rfl,hQ H' u⟩) fun z=>absurd rfl z⟩
theorem why_corrupt {mf:MF} (ok:mf.Ok) {b:List UInt8} {x:UInt8} (e:b=mf.enc++[x]) (hb:b.length<=100000) (hQ:∀ H',Upd [] H H'->Q (.str "corrupt") H'):callN T (d + 6) 0 i_law_why [.bytes b] H Q E :=
 enter fd_law_why rfl rfl ⟨rfl,mf_decode ok hb (cut:=[]) (ex:=[x]) ((List.append_nil _).trans e) (.inl rfl) (fun _ z=>nomatch z) (fun z=>absurd rfl z) fun _ H' u=>⟨rfl,rfl,rfl,rfl,hQ H' u⟩⟩
theorem same_tup {n:Nat} {as:List AV} (h:∀ v∈as,Same H n v v):Same H (n+1) (.tup as) (.tup as):=⟨rfl,fun i x y e1 e2=>by
 cases e1.symm.trans e2
 exact h _ (List.mem_of_getElem? e1)⟩
theorem same_map {α:Type} {n:Nat} {xs:List α} {f:α->AV} (h:∀ x,Same H n (f x) (f x)):Same H (n+1) (.tup (xs.map f)) (.tup (xs.map f)):=same_tup fun v hv=>by
 obtain ⟨x,_,rfl⟩:=List.mem_map.mp hv
 exact h x
theorem same_nil {n:Nat}:∀ v∈([]:List AV),Same H n v v:=fun _ h=>nomatch h
theorem same_cons {n:Nat} {v:AV} {as:List AV} (h1:Same H n v v) (h2:∀ v∈as,Same H n v v):∀ x∈v::as,Same H n x x
 | _,.head _=>h1
 | x,.tail _ h=>h2 x h
theorem same_mf {m m':MF} {n:Nat} (e:m=m'):Same H (n + 4) m.row m'.row:=e▸same_tup (same_cons rfl (same_cons rfl (same_cons rfl (same_cons rfl (same_cons (same_map fun r=>same_tup (same_cons rfl (same_cons rfl (same_cons rfl (same_cons rfl (same_cons rfl same_nil)))))) same_nil)))))
theorem same_list {α:Type} {a b n:Nat} {xs:List α} {f:α->AV} (ha:H[a]?=some (.list (xs.map f))) (hb:H[b]?=some (.list (xs.map f))) (h:∀ x,Same H n (f x) (f x)):Same H (n+1) (.ref a) (.ref b):=Lst.mk _ ha (Lst.mk _ hb ⟨rfl,fun i x y e1 e2=>by
 cases e1.symm.trans e2
 obtain ⟨z,_,rfl⟩:=List.mem_map.mp (List.mem_of_getElem? e1)
 exact h z⟩)
theorem whole_law {mf:MF} (ok:mf.Ok) (hQ:∀ H' k,Upd [] H H'->Man k H'->k.mf=mf->k.N<=H'.length->Q (.ref k.m) H'):callN T (d+13) 0 i_law_whole [mf.row] H Q E:=by
 refine enter fd_law_whole rfl rfl ⟨rfl,made_spec ok fun H1 k1 u1 M1 e1 n1=>mth M1.hm rfl (mf_encode M1 fun H2 u2=>?_)⟩
 refine ⟨rfl,octets_spec ok fun H3 l u3 g=>?_⟩
 have g0:=u3.get0 (getLast' (H:=H2) (o:=oL k1.mf.enc))
 refine .same (same_list g0 (e1▸g) fun x=>rfl) ?_
 refine ⟨rfl,read_spec ok (congrArg MF.enc e1) fun H4 k2 u4 M2 e2 n2=>⟨rfl,?_⟩⟩
 have M1':=((M1.upd0 u2).upd0 (.app (G:=[oL k1.mf.enc]))).upd0 (u3.trans u4)
 refine mth M2.hm rfl (mf_row M2 fun H5 u5=>.same (same_mf (n:=3) e2) ?_)
 refine mth (M1'.upd0 u5).hm rfl (mf_row (M1'.upd0 u5) fun H6 u6=>.same (same_mf (n:=3) e1) ?_)
 exact hQ H6 k2 (((u1.trans u2).trans (.trans .app (u3.trans u4))).trans (u5.trans u6)) ((M2.upd0 u5).upd0 u6) e2 (n2▸Nat.le_trans u5.le u6.le)
end
end Ab
end
section
namespace Ab
open PySem
noncomputable abbrev fl (c:Cell):AObj:=.list ((c.map Option.isSome).map .bool)
theorem fl_at {c:Cell} {i:Nat} (h:i < c.length):((c.map Option.isSome).map AV.bool)[i]?=some (.bool (cat c i).isSome):=by rw [List.getElem?_map,List.getElem?_map,at_cat h];rfl
theorem fl_len {c:Cell}:((c.map Option.isSome).map AV.bool).length=c.length:=by rw [List.length_map,List.length_map]
theorem any_fl:∀ c:Cell,(c.map Option.isSome).any (false==·)=decide (holeF c < c.length)
 | []=>rfl
 | none::c=>(decide_eq_true (Nat.succ_pos _)).symm
 | some x::c=>(any_fl c).trans (decide_eq_decide.mpr ⟨Nat.succ_lt_succ,Nat.lt_of_succ_lt_succ⟩)
theorem idx_fl:∀ {c:Cell},holeF c < c.length->(c.map Option.isSome)[holeF c]?=some false/\∀ j,j < holeF c->(c.map Option.isSome)[j]?≠some false
 | none::c,_=>⟨rfl,fun _ h=>absurd h (Nat.not_lt_zero _)⟩
 | some x::c,h=>⟨(idx_fl (Nat.lt_of_succ_lt_succ h)).1,fun
  | 0,_,e=>nomatch e
  | j+1,g,e=>(idx_fl (Nat.lt_of_succ_lt_succ h)).2 j (Nat.lt_of_succ_lt_succ g) e⟩
structure Tbl (s:SC) (z:Sst) (H:AH):Prop where
 hc:H[s.cl]?=some (refs s.k.n z.l)
 ho:∀ r,r < s.k.n->H[z.l r]?=some (fl (z.f r))
 nl:s.k.n<=150
theorem Tbl.upd0 {s:SC} {z:Sst} {H H':AH} (B:Tbl s z H) (u:Upd [] H H'):Tbl s z H':=⟨u.get0 B.hc,fun r hr=>u.get0 (B.ho r hr),B.nl⟩
structure Ch (F:Nat->Prop) (H H':AH):Prop where
 le:H.length<=H'.length
 at':∀ l o,¬ F l->H[l]?=some o->H'[l]?=some o
section
variable {F F':Nat->Prop} {H H' H'':AH} {S:List Nat} {l:Nat} {o:AObj}
theorem Upd.ch (u:Upd S H H') (h:∀ x∈S,F x):Ch F H H':=⟨u.le,fun l o n e=>u.get e fun q=>n (h l q)⟩
theorem Upd.ch0 (u:Upd [] H H'):Ch F H H':=u.ch fun _ q=>nomatch q
theorem Ch.trans (h1:Ch F H H') (h2:Ch F' H' H'') (hs:∀ x,F' x->F x\/H.length<=x):Ch F H H'' :=
 ⟨Nat.le_trans h1.le h2.le,fun l o n e=>h2.at' l o (fun q=>(hs l q).elim n fun g=>Nat.not_lt.mpr g (ltOf e)) (h1.at' l o n e)⟩
end
def Foot (s:SC) (z:Sst) (x:Nat):Prop:=x=s.hl\/x=s.cl\/∃ r,r < s.k.n/\z.l r=x
structure Side (s:SC) (z:Sst) (H:AH):Prop where
 bx:Box s z H
 tb:Tbl s z H
 hc:s.cl≠s.hl
 lh:∀ r,r < s.k.n->z.l r≠s.hl
 lc:∀ r,r < s.k.n->z.l r≠s.cl
 li:∀ r,r < s.k.n->∀ q,q < s.k.n->z.l r=z.l q->r=q
 nc:∀ r,r < s.k.n->z.h r≠s.cl
 nl:∀ r,r < s.k.n->∀ q,q < s.k.n->z.h r≠z.l q
 Nc:s.k.N<=s.cl
 Nl:∀ r,r < s.k.n->s.k.N<=z.l r
 fc:∀ r,r < s.k.n->(z.f r).length=(z.c r).length
structure Go (s:SC) (z z':Sst) (H H':AH):Prop where
 u:Ch (Foot s z) H H'
 l:∀ r,r < s.k.n->z'.l r=z.l r\/H.length<=z'.l r
 h:∀ r,r < s.k.n->z'.h r=z.h r\/H.length<=z'.h r
section
variable {s:SC} {z z' z'':Sst} {H H' H'':AH}
theorem Go.foot (g:Go s z z' H H') {x:Nat}:Foot s z' x->Foot s z x\/H.length<=x
 | .inl e=>.inl (.inl e)
 | .inr (.inl e)=>.inl (.inr (.inl e))
 | .inr (.inr ⟨r,hr,e⟩)=>(g.l r hr).imp (fun q=>.inr (.inr ⟨r,hr,q.symm.trans e⟩)) fun q=>e▸q
theorem Go.nil (u:Upd [] H H'):Go s z z H H':=⟨u.ch0,fun _ _=>.inl rfl,fun _ _=>.inl rfl⟩
theorem Go.trans (g:Go s z z' H H') (g':Go s z' z'' H' H''):Go s z z'' H H'' :=
 ⟨g.u.trans g'.u fun x h=>g.foot h,fun r hr=>(g'.l r hr).elim (fun e=>(g.l r hr).imp e.trans fun q=>e▸q) fun q=>.inr (Nat.le_trans g.u.le q),fun r hr=>(g'.h r hr).elim (fun e=>(g.h r hr).imp e.trans fun q=>e▸q) fun q=>.inr (Nat.le_trans g.u.le q)⟩
theorem Box.upd0 (B:Box s z H) (u:Upd [] H H'):Box s z H':=⟨B.man.upd0 u,u.get0 B.hb,u.get0 B.hh,fun r hr=>u.get0 (B.ho r hr),B.sz,B.le',B.l1,B.l0,B.hN,B.ne⟩
theorem Side.upd0 (S:Side s z H) (u:Upd [] H H'):Side s z H':=⟨S.bx.upd0 u,S.tb.upd0 u,S.hc,S.lh,S.lc,S.li,S.nc,S.nl,S.Nc,S.Nl,S.fc⟩
end
section
variable {d:Nat} {H:AH} {Q:AV->AH->Prop} {E:Nat->AH->Prop}
section
variable {k:Bool->Prop} {o:Option (Nat×Nat)}
theorem eq_mval (h:k true):eqP H (mval o) (mval o) k:=by
 cases o with
 | none=>exact .same rfl h
 | some p=>exact .same (same_tup (same_cons rfl (same_cons rfl same_nil))) h
theorem none_mval (h:k o.isNone):isNone (mval o) k:=by cases o <;> exact h
end
theorem hole_spec {s:SC} {z:Sst} (B:Tbl s z H) (hQ:Q (mval (missF z.f s.k.n 0)) H):callN T (d+1) 0 i_law_hole [.ref s.cl] H Q E:=by
 refine enter fd_law_hole rfl rfl (Lst.mk _ B.hc ?_)
 rw [len_refs]
 refine ⟨Nat.le_trans B.nl (by decide),forN (fun j (a:Option AV)=>⟨[some (.ref s.cl),a],H⟩) (fun j _=>missF z.f s.k.n 0=missF z.f (s.k.n - j) j) none rfl (fun j a hj J=>?_) fun a J=>?_⟩
 ·refine Lst.mk _ B.hc (At.mk _ (rng_at hj) (Lst.mk _ (B.ho j hj) ⟨_,rfl,ifX (any_fl _) ?_⟩))
  rcases Decidable.em (holeF (z.f j) < (z.f j).length) with h|h
  ·rw [J,miss_t hj h] at hQ
   exact ifT h (Lst.mk _ B.hc (At.mk _ (rng_at hj) ⟨Lst.mk _ (B.ho j hj) trivial,Lst.mk _ (B.ho j hj) ⟨_,_,rfl,(idx_fl h).1,(idx_fl h).2,hQ⟩⟩))
  ·exact ifF h (Fxt.mk _ rfl (J.trans (miss_f hj h)))
 ·rw [J,Nat.sub_self] at hQ
  exact hQ
theorem lruns_short {s:SC} {z:Sst} (B:Box s z H) (h:(missF z.c s.k.n 0).isSome=true) (hQ:Q (.str "short") H):callN T (d + 4) 0 i_law_runs [.ref s.b] H Q E :=
 enter fd_law_runs rfl rfl (mth B.hb rfl (runs_short B h ⟨rfl,rfl,hQ⟩))
theorem lruns_good {s:SC} {z:Sst} (B:Box s z H) (hf:missF z.c s.k.n 0=none) (hg:∀ r,r < s.k.n->gd s z r=true) (hQ:∀ H',Upd [] H H'->H'[H.length]?=some (.list ((List.range s.k.n).map fun r=>.bytes (octs (z.c r))))->Q (.ref H.length) H') :
  callN T (d + 4) 0 i_law_runs [.ref s.b] H Q E :=
 enter fd_law_runs rfl rfl (mth B.hb rfl (runs_good B hf hg hQ))
theorem lruns_bad {s:SC} {z:Sst} (B:Box s z H) (hf:missF z.c s.k.n 0=none) {r:Nat} (hr:r < s.k.n) (hg:gd s z r=false) (hQ:∀ H' h',Moved s z ⟨h',z.l,leftC s z,z.f⟩ H H'->Q (.str "corrupt") H') :
  callN T (d + 4) 0 i_law_runs [.ref s.b] H Q E :=
 enter fd_law_runs rfl rfl (mth B.hb rfl (runs_bad B hf hr hg fun H' h' M=>⟨rfl,rfl,rfl,rfl,hQ _ _ M⟩))
end
end Ab
end
section
namespace Ab
open PySem
section
variable {c:Cell} {o j:Nat} {pc:List UInt8}
theorem fill_next {i:Nat} (h:i≠o + j) (hl:i < c.length):cat (fill c o (pc.take (j+1))) i=cat (fill c o (pc.take j)) i:=by
 rw [fill_at hl,fill_at hl]
 congr 1
 rcases Nat.lt_or_ge i o with g|g
 ·exact (if_neg (Nat.not_le.mpr g)).trans (if_neg (Nat.not_le.mpr g)).symm
 ·rw [if_pos g,if_pos g,List.getElem?_take,List.getElem?_take]
  have n:i - o≠j:=fun q=>h (q▸(Nat.add_sub_cancel' g).symm)
  rcases Nat.lt_or_ge (i - o) j with k|k
  ·rw [if_pos k,if_pos (Nat.lt_succ_of_lt k)]
  ·rw [if_neg (Nat.not_lt.mpr k),if_neg (Nat.not_lt.mpr (Nat.lt_of_le_of_ne k n.symm))]
theorem fill_here (hl:o + j < c.length):cat (fill c o (pc.take j)) (o + j)=cat c (o + j):=by
 cases e:cat c (o + j) with
 | some x=>exact fill_some e
 | none=>exact fill_none e (.inr (Nat.add_le_add_left (List.length_take_le _ _) o))
theorem fill_skip {x:UInt8} (h:cat c (o + j)=some x):fill c o (pc.take j)=fill c o (pc.take (j+1)):=cell_ext (fillLen.trans fillLen.symm) fun i hi=>by
 rcases Decidable.em (i=o + j) with rfl|g
 ·rw [fill_some h,fill_some h]
 ·exact (fill_next g (fillLen▸hi)).symm
theorem cat_set {c:Cell} {i k:Nat} {y:Option UInt8} (h:k < c.length):cat (c.set k y) i=if k=i then y else cat c i:=by
 rw [cat,List.getElem?_set]
 rcases Decidable.em (k=i) with rfl|g
 ·rw [if_pos rfl,if_pos rfl,if_pos h];rfl
 ·rw [if_neg g,if_neg g];rfl
theorem fill_succ {x:UInt8} (hl:o + j < c.length) (h:cat c (o + j)=none) (hx:pc[j]?=some x):(fill c o (pc.take j)).set (o + j) (some x)=fill c o (pc.take (j+1)):=cell_ext (by rw [List.length_set,fillLen,fillLen]) fun i hi=>by
 rw [cat_set (by rw [fillLen];exact hl)]
 rcases Decidable.em (o + j=i) with rfl|g
 ·rw [if_pos rfl,fill_new hl h (Nat.le_add_right _ _),Nat.add_sub_cancel_left,List.getElem?_take,if_pos (Nat.lt_succ_self _),hx]
 ·rw [if_neg g]
  exact (fill_next (Ne.symm g) (fillLen▸hi)).symm
theorem new_skip {x:UInt8} {b:Bool} (h:cat c (o + j)=some x) (n:b=true↔New c o (o + j)):b=true↔New c o (o + (j+1)) :=
 n.trans ⟨fun ⟨i,h1,h2,h3⟩=>⟨i,h1,Nat.lt_succ_of_lt h2,h3⟩,fun ⟨i,h1,h2,h3⟩=>⟨i,h1,Nat.lt_of_le_of_ne (Nat.le_of_lt_succ h2) (fun q=>nomatch h3.symm.trans ((congrArg (cat c) q).trans h)),h3⟩⟩
theorem take_min (k:Nat) (pc:List UInt8):pc.take (min k pc.length)=pc.take k:=(Nat.le_total k pc.length).elim (fun h=>by rw [Nat.min_eq_left h]) fun h=>by rw [Nat.min_eq_right h,List.take_length,List.take_of_length_le h]
end
structure LtA where
 new:Bool
 t:Option AV
 H:AH
structure LtI (c:Cell) (o l:Nat) (pc:List UInt8) (H:AH) (j:Nat) (a:LtA):Prop where
 u:Upd [l] H a.H
 ho:a.H[l]?=some (fl (fill c o (pc.take j)))
 n:a.new=true↔New c o (o + j)
theorem fill_zero {c:Cell} {o:Nat}:fill c o []=c:=fill_same fun ⟨_,h1,h2,_⟩=>absurd h1 (Nat.not_le.mpr h2)
section
variable {s:SC} {z:Sst} {H H':AH} {S:List Nat}
theorem Box.upd (B:Box s z H) (u:Upd S H H') (h1:∀ x∈S,s.k.N<=x/\x≠s.hl) (h2:s.b∉S) (h3:∀ r,r < s.k.n->z.h r∉S):Box s z H' :=
 ⟨B.man.upd u fun x h=>(h1 x h).1,u.get B.hb h2,u.get B.hh fun q=>(h1 _ q).2 rfl,fun r hr=>u.get (B.ho r hr) (h3 r hr),B.sz,B.le',B.l1,B.l0,B.hN,B.ne⟩
noncomputable abbrev at1 (z:Sst) (r h:Nat) (c:Cell):Sst:=⟨up z.h r h,z.l,up z.c r c,up z.f r c⟩
theorem Side.took {r h':Nat} {c':Cell} {H1:AH} (S:Side s z H) (hr:r < s.k.n) (u:Upd [z.l r] H H1) (ho:H1[z.l r]?=some (fl c')) (B1:Box s z H1) (T:Took s z r c' H1 H' h') (hl:c'.length=(z.c r).length) :
  Side s (at1 z r h' c') H'/\Go s z (at1 z r h' c') H H':=by
 have lr:=fun {q:Nat} {o:AObj} (n:q≠z.l r) (e:H[q]?=some o)=>u.get e fun k=>n (List.mem_singleton.mp k)
 have lt:=fun {q:Nat} {o:AObj} (n:q≠s.hl) (e:H1[q]?=some o)=>T.u.get e fun k=>n (List.mem_singleton.mp k)
 have hx:∀ q,q < s.k.n->up z.h r h' q=z.h q\/H.length<=up z.h r h' q:=fun q hq=>by
  rcases Decidable.em (q=r) with rfl|g
  ·rw [up_at]
   exact T.nh.imp id (Nat.le_trans u.le)
  ·exact .inl (up_ne g)
 have off:∀ q,q < s.k.n->∀ x,x < H.length->z.h q≠x->up z.h r h' q≠x:=fun q hq x lx n=>(hx q hq).elim (fun e=>e▸n) fun g=>Nat.ne_of_gt (Nat.lt_of_lt_of_le lx g)
 have cl:=fun q=>up z.c r c' q
 have B:Box s (at1 z r h' c') H':=by
  refine ⟨B1.man.upd T.u fun x h=>List.mem_singleton.mp h▸B1.hN,lt (fun q=>nomatch (q▸B1.hb).symm.trans B1.hh) B1.hb,T.hh,fun q hq=>?_,fun q hq=>?_,fun q hq=>?_,B1.l1,B1.l0,B1.hN,fun q hq=>off q hq _ (ltOf S.bx.hh) (B1.ne q hq)⟩
  ·rcases Decidable.em (q=r) with rfl|g
   ·exact idx up_at (T.ho.trans (congrArg (fun c=>some (pcs c)) up_at.symm))
   ·exact idx (up_ne g) ((lt (B1.ne q hq) (B1.ho q hq)).trans (congrArg (fun c=>some (pcs c)) (up_ne g).symm))
  ·rcases Decidable.em (q=r) with rfl|g
   ·exact (B1.sz q hq).trans (hl.symm.trans (congrArg List.length up_at.symm))
   ·exact (B1.sz q hq).trans (congrArg List.length (up_ne g).symm)
  ·rcases Decidable.em (q=r) with rfl|g
   ·exact Nat.le_trans (Nat.le_of_eq ((congrArg List.length up_at).trans hl)) (B1.le hq)
   ·exact Nat.le_trans (Nat.le_of_eq (congrArg List.length (up_ne g))) (B1.le hq)
 refine ⟨⟨B,⟨lt S.hc (lr (S.lc r hr).symm S.tb.hc),fun q hq=>?_,S.tb.nl⟩,S.hc,S.lh,S.lc,S.li,fun q hq=>off q hq _ (ltOf S.tb.hc) (S.nc q hq),fun q hq p hp=>off q hq _ (ltOf (S.tb.ho p hp)) (S.nl q hq p hp),S.Nc,S.Nl,fun q hq=>?_⟩,⟨(u.ch fun x h=>.inr (.inr ⟨r,hr,(List.mem_singleton.mp h).symm⟩)).trans (T.u.ch (F:=Foot s z) fun x h=>.inl (List.mem_singleton.mp h)) fun _ h=>.inl h,fun _ _=>.inl rfl,hx⟩⟩
 ·rcases Decidable.em (q=r) with rfl|g
  ·exact (lt (S.lh q hq) ho).trans (congrArg (fun c=>some (fl c)) up_at.symm)
  ·exact (lt (S.lh q hq) (lr (fun e=>g (S.li q hq r hr e)) (S.tb.ho q hq))).trans (congrArg (fun c=>some (fl c)) (up_ne g).symm)
 ·rcases Decidable.em (q=r) with rfl|g
  ·exact congrArg List.length (up_at.trans up_at.symm)
  ·exact (congrArg List.length (up_ne g)).trans ((S.fc q hq).trans (congrArg List.length (up_ne g).symm))
end
end Ab
end
section
namespace Ab
open PySem
theorem iadd {o a b:Nat}:(o:Int) + min (a:Int) (b:Int)=((o + min a b:Nat):Int):=by rw [imin];rfl
section
variable {d:Nat} {H:AH} {Q:AV->AH->Prop} {E:Nat->AH->Prop}
theorem eqb {P:Prop} {b c:Bool} (h:b=true↔P) (g:c=true↔P):b=c:=Bool.eq_iff_iff.mpr (h.trans g.symm)
noncomputable abbrev gvf (s:SC) (r o:Int) (pc:List UInt8) (b:Bool) (t:Option AV):List (Option AV):=[some (.ref s.b),some (.ref s.cl),some (.int (s.lim:Int)),some (.int r),some (.int o),some (.bytes pc),some (.bool b),t]
theorem give_loop {s:SC} {z:Sst} {r o:Nat} {pc:List UInt8} {E:KX} (S:Side s z H) (hr:r < s.k.n) (ho:o + pc.length<=(z.f r).length) (hl:(z.f r).length<=200)
  (hQ:∀ (H1:AH) (b:Bool) (t:Option AV),Upd [z.l r] H H1->H1[z.l r]?=some (fl (fill (z.f r) o (pc.take s.lim)))->(b=true↔New (z.f r) o (o + (pc.take s.lim).length)) →
   vSs T (callN T d) b_law_give_0_2 ⟨gvf s r o pc b t,H1⟩ (retK Q) E) :
  vSs T (callN T d) b_law_give_1_0 ⟨gvf s r o pc false none,H⟩ (onNext (fun st=>vSs T (callN T d) b_law_give_0_2 st (retK Q) E) (retK Q)) E:=by
 have hoc:=S.tb.ho r hr
 generalize z.f r=c at *
 have m2:o + min s.lim pc.length<=200:=Nat.le_trans (Nat.le_trans (Nat.add_le_add_left (Nat.min_le_right _ _) o) ho) hl
 have o2:o<=200:=Nat.le_trans (Nat.le_add_right _ _) m2
 refine Nt.mk (a:=.int (_ + min _ _)) _ (congrArg AV.int (iadd (o:=o) (a:=s.lim) (b:=pc.length))) ⟨⟨Nat.le_trans o2 (by decide),Nat.le_trans m2 (by decide)⟩,?_⟩
 refine forN (fun j (a:LtA)=>⟨gvf s r o pc a.new a.t,a.H⟩) (LtI c o (z.l r) pc H) ⟨false,none,H⟩ ⟨.refl,by rw [List.take_zero,fill_zero];exact hoc,⟨(fun h=>nomatch h),fun ⟨_,h1,h2,_⟩=>absurd h1 (Nat.not_le.mpr h2)⟩⟩ (fun j a hj J=>?_) fun a J=>?_
 ·rw [Nat.add_sub_cancel_left] at hj
  have jp:=Nat.lt_of_lt_of_le hj (Nat.min_le_right _ _)
  have hol:=Nat.lt_of_lt_of_le (Nat.add_lt_add_left jp o) ho
  have hx:pc[j]?=some pc[j]:=List.getElem?_eq_getElem jp
  generalize pc[j]=x at hx
  have hl:o + j < (fill c o (pc.take j)).length:=fillLen.symm▸hol
  have hcl:=J.u.get S.tb.hc fun q=>S.lc r hr (List.mem_singleton.mp q).symm
  refine Lst.mk _ hcl (At.mk _ (rng_at hr) (Lst.mk _ J.ho (At.mk _ (fl_at hl) ?_)))
  rw [fill_here hol]
  cases e:cat c (o + j) with
  | some y=>exact Fxt.mk ⟨a.new,some (.int ((o + j:Nat):Int)),a.H⟩ rfl ⟨J.u,fill_skip e▸J.ho,new_skip e J.n⟩
  | none =>
   refine Lst.mk _ hcl (At.mk _ (rng_at hr) (Lst.mk _ J.ho ⟨fl_len.symm▸hl,Fxt.mk ⟨true,some (.int ((o + j:Nat):Int)),_⟩ rfl ⟨J.u.trans (.set (.head _)),?_,⟨fun _=>⟨o + j,Nat.le_add_right _ _,Nat.lt_succ_self _,e⟩,fun _=>rfl⟩⟩⟩))
   rw [<-fill_succ hol e hx,fl,List.map_set,List.map_set]
   exact getSet J.ho
 ·rw [Nat.add_sub_cancel_left] at J
  have oo:=J.ho
  have n:=J.n
  rw [take_min] at oo
  rw [Nat.min_def,<-Nat.min_def,<-List.length_take] at n
  exact hQ _ _ _ J.u oo n
theorem give_yes {s:SC} {z:Sst} {r o:Nat} {pc:List UInt8} (S:Side s z H) (hr:r < s.k.n) (hf:z.f r=z.c r) (ho:o + pc.length<=(z.c r).length)
  (hQ:∀ H' h',Side s (at1 z r h' (fill (z.c r) o (pc.take s.lim))) H'->Go s z (at1 z r h' (fill (z.c r) o (pc.take s.lim))) H H'->Q (.bool true) H') :
  callN T (d + 3) 0 i_law_give [.ref s.b,.ref s.cl,.int (s.lim:Int),.int (r:Int),.int (o:Int),.bytes pc] H Q E:=by
 refine enter fd_law_give rfl rfl (Lst.mk _ S.tb.hc (ifT (by rw [len_refs];exact Int.ofNat_lt.mpr hr) (Lst.mk _ S.tb.hc (At.mk _ (rng_at hr) (Lst.mk _ (S.tb.ho r hr) (ifT (by rw [fl_len,hf];exact Int.ofNat_le.mpr ho) ?_))))))
 refine give_loop S hr (hf▸ho) (hf▸S.bx.le hr) fun H1 b t u oo n=>?_
 rw [hf] at oo n
 have B1:=S.bx.upd u (fun x h=>List.mem_singleton.mp h▸⟨S.Nl r hr,S.lh r hr⟩) (fun q=>nomatch (List.mem_singleton.mp q▸S.bx.hb).symm.trans (S.tb.ho r hr)) fun q hq h=>S.nl q hq r hr (List.mem_singleton.mp h)
 refine mth B1.hb rfl (take_yes B1 hr ho fun H2 h' b' K n'=>?_)
 obtain ⟨S2,g⟩:=S.took hr u oo B1 K fillLen
 have e:=eqb n' n
 have q:Q (.bool (decide (b'=b))) H2:=by
  rw [decide_eq_true e]
  exact hQ H2 h' S2 g
 exact q
theorem give_no {s:SC} {z:Sst} {r o:Nat} {pc:List UInt8} (S:Side s z H) (hno:s.k.n<=r\/r < s.k.n/\(z.c r).length < o + pc.length) (hQ:Q (.bool true) H) :
  callN T (d + 3) 0 i_law_give [.ref s.b,.ref s.cl,.int (s.lim:Int),.int (r:Int),.int (o:Int),.bytes pc] H Q E:=by
 have fin:∀ {t:Option AV},vSs T (callN T (d + 2)) b_law_give_0_2 ⟨gvf s r o pc false t,H⟩ (retK Q) fun c st=>st.on fun _ H=>E c H :=
  fun {t}=>mth S.bx.hb rfl (take_no S.bx (.inr (hno.imp Int.ofNat_le.mpr fun h=>.inr ⟨r,rfl,h.1,Int.ofNat_lt.mpr h.2⟩)) hQ)
 refine enter fd_law_give rfl rfl (Lst.mk _ S.tb.hc ?_)
 rcases hno with h|h
 ·have c:¬ (r:Int) < (((List.range s.k.n).map fun r=>AV.ref (z.l r)).length:Int):=by rw [len_refs];exact Int.not_lt.mpr (Int.ofNat_le.mpr h)
  exact ifF c (ifF c fin)
 ·exact ifT (by rw [len_refs];exact Int.ofNat_lt.mpr h.1) (Lst.mk _ S.tb.hc (At.mk _ (rng_at h.1) (Lst.mk _ (S.tb.ho r h.1) (ifF (by rw [fl_len,S.fc r h.1];exact Int.not_le.mpr (Int.ofNat_lt.mpr h.2)) fin))))
end
end Ab
end
section
namespace Ab
open PySem
def rngN (n st f:Nat):List Nat:=(List.range ((n - f + (st - 1)) / st)).map fun i=>f + st * i
def ordL (n st j:Nat):List Nat:=((List.range j).map (rngN n st)).flatten
theorem ordL_succ {n st j:Nat}:ordL n st (j+1)=ordL n st j++rngN n st j:=by rw [ordL,List.range_succ,List.map_append,List.flatten_append];exact congrArg (_++·) (List.append_nil _)
theorem rngN_len {n st f:Nat}:(rngN n st f).length=(n - f + (st - 1)) / st:=by rw [rngN,List.length_map,List.length_range]
theorem ordL_len {n st:Nat} (h:st=1\/st=3\/st=5) (hn:5<=n):(ordL n st st).length=n:=by
 have e:∀ j,(ordL n st (j+1)).length=(ordL n st j).length + (n - j + (st - 1)) / st:=fun j=>by rw [ordL_succ,List.length_append,rngN_len]
 have e0:(ordL n st 0).length=0:=rfl
 rcases h with rfl|rfl|rfl
 ·rw [e,e0];omega
 ·rw [e,e,e,e0];omega
 ·rw [e,e,e,e,e,e0];omega
theorem ordL_mem {n st r:Nat} (h:0 < st):r∈ordL n st st↔r < n:=by
 rw [ordL,List.mem_flatten]
 constructor
 ·rintro ⟨L,hL,hr⟩
  obtain ⟨f,_,rfl⟩:=List.mem_map.mp hL
  obtain ⟨i,hi,rfl⟩:=List.mem_map.mp hr
  have q:=(Nat.le_div_iff_mul_le h).mp (List.mem_range.mp hi)
  rw [Nat.succ_mul,Nat.mul_comm] at q
  omega
 ·intro hr
  refine ⟨_,List.mem_map.mpr ⟨r % st,List.mem_range.mpr (Nat.mod_lt _ h),rfl⟩,List.mem_map.mpr ⟨r / st,List.mem_range.mpr ((Nat.le_div_iff_mul_le h).mpr ?_),Nat.mod_add_div r st⟩⟩
  have e:=Nat.mod_add_div r st
  rw [Nat.succ_mul,Nat.mul_comm]
  omega
structure Ord (n:Nat) (os:Nat->Nat):Prop where
 lt:∀ j,j < n->os j < n
 all:∀ r,r < n->∃ j,j < n/\os j=r
noncomputable abbrev ordO (n:Nat) (os:Nat->Nat):AObj:=.list ((List.range n).map fun j=>.int (os j:Int))
theorem list_fun {L:List Nat} {n:Nat} (h:L.length=n):(L.map fun n:Nat=>AV.int (n:Int))=(List.range n).map fun j=>AV.int (L.getD j 0:Int):=by
 refine List.ext_getElem? fun i=>?_
 rcases Nat.lt_or_ge i n with g|g
 ·rw [rng_at g,List.getElem?_map,List.getD_eq_getElem?_getD,List.getElem?_eq_getElem (h▸g)];rfl
 ·rw [List.getElem?_eq_none (by rw [List.length_map,h];exact g),List.getElem?_eq_none (by rw [List.length_map,List.length_range];exact g)]
theorem ord_of {L:List Nat} {n:Nat} (h:L.length=n) (hm:∀ r,r∈L↔r < n):Ord n fun j=>L.getD j 0:=by
 refine ⟨fun j hj=>(hm _).mp ?_,fun r hr=>?_⟩
 ·show L.getD j 0∈L
  rw [List.getD_eq_getElem?_getD,List.getElem?_eq_getElem (h▸hj)]
  exact List.getElem_mem _
 ·obtain ⟨j,hj,e⟩:=List.getElem_of_mem ((hm r).mpr hr)
  exact ⟨j,h▸hj,by rw [<-e];show L.getD j 0=_;rw [List.getD_eq_getElem?_getD,List.getElem?_eq_getElem hj];rfl⟩
theorem ord_ex {L:List Nat} {n:Nat} (h:L.length=n) (hm:∀ r,r∈L↔r < n):∃ os,natL L=ordO n os/\Ord n os:=⟨_,congrArg AObj.list (list_fun h),ord_of h hm⟩
theorem Ord.rev {n:Nat} {os:Nat->Nat} (O:Ord n os):Ord n fun i=>os (n - 1 - i) :=
 ⟨fun j hj=>O.lt _ (by omega),fun r hr=>(O.all r hr).elim fun j q=>⟨n - 1 - j,by omega,by show os (n - 1 - (n - 1 - j))=r;rw [show n - 1 - (n - 1 - j)=j by omega];exact q.2⟩⟩
structure OrI (n st:Nat) (H:AH) (j:Nat) (a:Option AV×AH):Prop where
 u:Upd [] H a.2
 o:a.2[H.length]?=some (natL (ordL n st j))
 le:(ordL n st j).length<=200 * j
section
variable {d:Nat} {H:AH} {Q:AV->AH->Prop}
theorem order_rest {n o st:Nat} {E:KX} (h:st=1\/st=3\/st=5) (h5:5<=n) (hn:n<=150) (hQ:∀ H' l os,Upd [] H H'->H'[l]?=some (ordO n os)->Ord n os->H.length<=l->Q (.ref l) H') :
  vSs T (callN T d) b_law_order_0_1 ⟨[some (.int (n:Int)),some (.int (o:Int)),some (.int (st:Int)),none,none],H⟩ (retK Q) E:=by
 have s5:st<=5:=by omega
 have s0:0 < st:=by omega
 refine ⟨Nat.le_trans s5 (by decide),?_⟩
 refine forN (fun j (a:Option AV×AH)=>⟨[some (.int (n:Int)),some (.int (o:Int)),some (.int (st:Int)),some (.ref H.length),a.1],a.2⟩) (OrI n st H) (none,H++[.list []]) ⟨.app,getLast',Nat.le_refl _⟩ (fun j a hj J=>?_) fun a J=>?_
 ·have lo:=ltOf J.o
  refine ⟨Lst.mk _ J.o trivial,rfl,⟨Nat.le_trans (Nat.le_of_lt (Nat.lt_of_lt_of_le hj s5)) (by decide),Nat.le_trans hn (by decide),s0,Nat.le_trans s5 (by decide)⟩,?_⟩
  have ly:(rngItems ((n - j + (st - 1)) / st) fun i=>j + st * i).length<=200:=by
   rw [rngItems,List.length_map,List.length_range]
   exact Nat.le_trans (Nat.div_le_self _ _) (by omega)
  have lx:((ordL n st j).map fun n:Nat=>AV.int (n:Int)).length<=1000:=by
   rw [List.length_map]
   exact Nat.le_trans J.le (by omega)
  have e:((ordL n st j).map fun n:Nat=>AV.int (n:Int))++(rngItems ((n - j + (st - 1)) / st) fun i=>j + st * i)=(ordL n st (j+1)).map fun n:Nat=>AV.int (n:Int):=by
   rw [ordL_succ,List.map_append,rngN,List.map_map];rfl
  refine Lst.mk _ (getApp J.o) (Lst.mk _ getLast' ⟨⟨Nat.ne_of_gt lo,Nat.le_trans (Nat.add_le_add lx ly) (by decide)⟩,Fxt.mk (_,_) rfl ⟨(J.u.trans .app).fresh (.set (.head _)) (Nat.le_refl _),e▸getSet (getApp J.o),?_⟩⟩)
  rw [ordL_succ,List.length_append,rngN_len]
  rw [rngItems,List.length_map,List.length_range] at ly
  exact Nat.add_le_add J.le ly
 ·have hl:=ordL_len h h5
  obtain ⟨os,e,O⟩:=ord_ex hl fun r=>ordL_mem (r:=r) s0
  have o1:=e▸J.o
  refine ⟨by decide,?_⟩
  rcases Decidable.em ((1:Int) < (o:Int) % 4) with g|g
  ·refine ifT g ⟨Nat.le_trans hn (by decide),?_⟩
   have u2:Upd [] a.2 (a.2++[AObj.list []]):=.app
   refine forN (fun j (b:Option AV×AH)=>⟨[b.1,some (.ref H.length),some (.int (n:Int))],b.2⟩) (fun j b=>RowsI a.2 ((List.range j).map fun i=>AV.int (os (n - 1 - i):Int)) b) (none,a.2++[.list []]) ⟨u2,getLast'⟩ (fun j b hj K=>?_) fun b K=>?_
   ·refine Nt.mk (a:=.int ((n:Int) - 1 - (j:Int))) (n - 1 - j) (congrArg AV.int (by omega)) (Lst.mk _ (K.u.get0 o1) (At.mk _ (rng_at (by omega)) ?_))
    exact Lst.mk _ K.o ⟨Nat.lt_of_le_of_lt (Nat.le_trans (Nat.le_of_eq len_refs) (Nat.le_trans (Nat.le_of_lt hj) hn)) (by decide),Fxt.mk (_,_) rfl (K.push .refl (range_push (f:=fun i=>AV.int (os (n - 1 - i):Int))))⟩
   ·exact hQ _ _ (fun i=>os (n - 1 - i)) (J.u.trans K.u) K.o O.rev J.u.le
  ·exact ifF g (hQ _ _ _ J.u o1 O (Nat.le_refl _))
theorem order_spec {n o:Nat} {E:Nat->AH->Prop} (h5:5<=n) (hn:n<=150) (hQ:∀ H' l os,Upd [] H H'->H'[l]?=some (ordO n os)->Ord n os->H.length<=l->Q (.ref l) H'):callN T (d+1) 0 i_law_order [.int (n:Int),.int (o:Int)] H Q E:=by
 obtain ⟨st,h,e⟩:∃ st:Nat,(st=1\/st=3\/st=5)/\[AV.int 1,.int 3,.int 1,.int 5][o % 4]?=some (.int (st:Int)):=by
  have K:∀ r,r < 4->∃ st:Nat,(st=1\/st=3\/st=5)/\[AV.int 1,.int 3,.int 1,.int 5][r]?=some (.int (st:Int)):=fun
   | 0,_=>⟨1,.inl rfl,rfl⟩
   | 1,_=>⟨3,.inr (.inl rfl),rfl⟩
   | 2,_=>⟨1,.inl rfl,rfl⟩
   | 3,_=>⟨5,.inr (.inr rfl),rfl⟩
  exact K _ (Nat.mod_lt _ (by decide))
 refine enter fd_law_order rfl rfl ⟨by decide,At.mk _ e ?_⟩
 exact order_rest h h5 hn hQ
end
end Ab
end
section
namespace Ab
open PySem
structure Agr (c:Cell) (b:List UInt8):Prop where
 len:c.length=b.length
 ok:∀ i x,cat c i=some x->b[i]?=some x
section
variable {c:Cell} {b:List UInt8} {o lim:Nat}
theorem cat_nones {n i:Nat}:cat (List.replicate n none) i=none:=by
 rcases Nat.lt_or_ge i n with h|h
 ·exact cat_of (by rw [List.getElem?_replicate,if_pos h])
 ·exact cat_ge (by rw [List.length_replicate];exact h)
theorem Agr.blank:Agr (List.replicate b.length none) b:=⟨List.length_replicate,fun i x h=>nomatch h.symm.trans cat_nones⟩
theorem Agr.all:Agr (b.map some) b:=⟨List.length_map _,fun i x h=>cat_map.symm.trans h⟩
theorem Agr.eq (A:Agr c b) (h:∀ i,i < b.length->(cat c i).isSome=true):c=b.map some:=cell_ext (A.len.trans (List.length_map _).symm) fun i hi=>by
 rw [List.length_map] at hi
 obtain ⟨x,e⟩:=Option.isSome_iff_exists.mp (h i hi)
 rw [e,cat_map,A.ok i x e]
theorem fill_or {i:Nat} (hi:i < c.length):cat (fill c o ((b.drop o).take lim)) i=(cat c i).or (if o<=i/\i < o + lim then b[i]? else none):=by
 rw [fill_at hi]
 congr 1
 rcases Nat.lt_or_ge i o with g|g
 ·rw [if_neg (Nat.not_le.mpr g),if_neg fun h=>Nat.not_lt.mpr h.1 g]
 ·rw [if_pos g,List.getElem?_take,List.getElem?_drop,Nat.add_sub_cancel' g]
  rcases Nat.lt_or_ge i (o + lim) with k|k
  ·rw [if_pos (Nat.sub_lt_left_of_lt_add g k),if_pos ⟨g,k⟩]
  ·rw [if_neg (Nat.not_lt.mpr (Nat.le_sub_of_add_le' k)),if_neg fun h=>Nat.not_lt.mpr k h.2]
theorem Agr.fill (A:Agr c b):Agr (fill c o ((b.drop o).take lim)) b:=⟨fillLen.trans A.len,fun i x h=>by
 have hi:i < c.length:=fillLen▸cat_lt h
 rw [fill_or hi] at h
 cases e:cat c i with
 | some y=>rw [e] at h;exact A.ok i x (e.trans h)
 | none =>
  rw [e] at h
  have h:(if o<=i/\i < o + lim then b[i]? else none)=some x:=h
  rcases Decidable.em (o<=i/\i < o + lim) with g|g
  ·rw [if_pos g] at h
   exact h
  ·rw [if_neg g] at h
   exact nomatch h⟩
theorem fill_more {i:Nat} (h:(cat c i).isSome=true):(cat (Ab.fill c o ((b.drop o).take lim)) i).isSome=true:=by
 obtain ⟨x,e⟩:=Option.isSome_iff_exists.mp h
 rw [fill_some e];rfl
theorem Agr.got (A:Agr c b) {i:Nat} (h1:o<=i) (h2:i < o + lim) (h3:i < b.length):(cat (Ab.fill c o ((b.drop o).take lim)) i).isSome=true:=by
 rw [fill_or (A.len.symm▸h3),if_pos ⟨h1,h2⟩,List.getElem?_eq_getElem h3]
 cases cat c i <;> rfl
end
structure Gv (lim:Nat) (z z':Sst) (r o:Nat) (b:List UInt8):Prop where
 c:∀ q,q≠r->z'.c q=z.c q/\z'.f q=z.f q
 fr:z'.f r=z'.c r
 a:Agr (z'.c r) b
 m:∀ i,(cat (z.c r) i).isSome=true->(cat (z'.c r) i).isSome=true
 n:∀ i,o<=i->i < o + lim->i < b.length->(cat (z'.c r) i).isSome=true
def Env (L:List (Nat×AObj)) (s:SC) (z:Sst) (H:AH):Prop:=∀ p∈L,H[p.1]?=some p.2/\¬ Foot s z p.1
section
variable {s:SC} {z z':Sst} {H H':AH} {L:List (Nat×AObj)}
theorem Go.off (g:Go s z z' H H') {x:Nat} {o:AObj} (e:H[x]?=some o) (h:¬ Foot s z x):¬ Foot s z' x:=fun q=>(g.foot q).elim h fun l=>Nat.not_lt.mpr l (ltOf e)
theorem Env.go (V:Env L s z H) (g:Go s z z' H H'):Env L s z' H':=fun p hp=>⟨g.u.at' _ _ (V p hp).2 (V p hp).1,g.off (V p hp).1 (V p hp).2⟩
end
section
variable {d:Nat} {H:AH} {Q:AV->AH->Prop} {E:Nat->AH->Prop}
theorem gv_spec {s:SC} {z:Sst} {r o:Nat} {b pc:List UInt8} (S:Side s z H) (hr:r < s.k.n) (hf:z.f r=z.c r) (A:Agr (z.c r) b) (ho:o<=b.length) (e:pc=b.drop o)
  (hQ:∀ H' z',Side s z' H'->Go s z z' H H'->Gv s.lim z z' r o b->Q (.bool true) H') :
  callN T (d + 3) 0 i_law_give [.ref s.b,.ref s.cl,.int (s.lim:Int),.int (r:Int),.int (o:Int),.bytes pc] H Q E:=by
 subst e
 refine give_yes S hr hf (by rw [List.length_drop,Nat.add_sub_cancel' ho,A.len];exact Nat.le_refl _) fun H' h' S' g=>hQ H' _ S' g ⟨fun q hq=>⟨up_ne hq,up_ne hq⟩,up_at.trans up_at.symm,?_,fun i hi=>?_,fun i h1 h2 h3=>?_⟩
 ·exact (congrArg (Agr · b) up_at).mpr A.fill
 ·exact (congrArg (fun c=>(cat c i).isSome) up_at).trans (fill_more hi)
 ·exact (congrArg (fun c=>(cat c i).isSome) up_at).trans (A.got h1 h2 h3)
end
end Ab
end
section
namespace Ab
open PySem
def spl (t:Nat) (b:List UInt8):List UInt8:=UInt8.ofNat (((b.headD 0).toNat+1 + t % 255) % 256)::b.drop 1
structure DK where
 s:SC
 y:Nat
 z:Nat
 t:Nat
 lc:Nat
 lw:Nat
 lo:Nat
 ct:Nat->List UInt8
 ws:List Nat
 os:Nat->Nat
 z0:AObj
noncomputable def DK.tl (K:DK) (r:Nat):List UInt8:=if r∈K.ws then spl K.t (K.ct r) else K.ct r
noncomputable def DK.co (K:DK):AObj:=.list ((List.range K.s.k.n).map fun r=>.bytes (K.ct r))
noncomputable def DK.L (K:DK):List (Nat×AObj):=[(K.lc,K.co),(K.lw,natL K.ws),(0,K.z0),(K.lo,ordO K.s.k.n K.os)]
structure DK.Ok (K:DK):Prop where
 n2:2<=K.s.k.n
 l0:∀ r,r < K.s.k.n->0 < (K.ct r).length
 l2:∀ r,r < K.s.k.n->(K.ct r).length<=2
 O:Ord K.s.k.n K.os
 n1:K.s.k.n<=150
 ck:∀ r,r < K.s.k.n->(K.s.k.p r).2.check=chk (K.ct r)
theorem spl_len {t:Nat} {b:List UInt8} (h:0 < b.length):(spl t b).length=b.length:=by
 rw [spl,List.length_cons,List.length_drop,Nat.sub_add_cancel h]
section
variable {K:DK} (k:K.Ok) {r:Nat} (hr:r < K.s.k.n)
include k hr
theorem DK.Ok.tl_len:(K.tl r).length=(K.ct r).length:=by
 unfold DK.tl
 split
 ·exact spl_len (k.l0 r hr)
 ·rfl
theorem DK.Ok.t0:0 < (K.tl r).length:=k.tl_len hr▸k.l0 r hr
theorem DK.Ok.t2:(K.tl r).length<=2:=k.tl_len hr▸k.l2 r hr
end
structure Mid (K:DK) (j:Nat) (z:Sst) (H:AH):Prop where
 S:Side K.s z H
 V:Env K.L K.s z H
 yes:∀ i,i < j->K.os i≠K.os j->z.c (K.os i)=(K.tl (K.os i)).map some
 no:∀ r,r < K.s.k.n->(∀ i,i < j+1->K.os i≠r)->z.c r=List.replicate (K.tl r).length none
 same:∀ r,r < K.s.k.n->z.f r=z.c r
 a:Agr (z.c (K.os j)) (K.tl (K.os j))
structure DvI (K:DK) (j:Nat) (z:Sst) (H:AH):Prop where
 S:Side K.s z H
 V:Env K.L K.s z H
 yes:∀ i,i < j->z.c (K.os i)=(K.tl (K.os i)).map some
 no:∀ r,r < K.s.k.n->(∀ i,i < j->K.os i≠r)->z.c r=List.replicate (K.tl r).length none
 same:∀ r,r < K.s.k.n->z.f r=z.c r
section
variable {K:DK} {j o:Nat} {z z':Sst} {H H':AH}
theorem Mid.upd0 (M:Mid K j z H) (u:Upd [] H H'):Mid K j z H':=⟨M.S.upd0 u,fun p hp=>⟨u.get0 (M.V p hp).1,(M.V p hp).2⟩,M.yes,M.no,M.same,M.a⟩
theorem Mid.gv (M:Mid K j z H) (S:Side K.s z' H') (g:Go K.s z z' H H') (v:Gv K.s.lim z z' (K.os j) o (K.tl (K.os j))):Mid K j z' H' :=
 ⟨S,M.V.go g,fun i hi hn=>((v.c _ hn).1).trans (M.yes i hi hn),fun r hr h=>(v.c r fun q=>h j (Nat.lt_succ_self _) q.symm).1.trans (M.no r hr h),fun r hr=>by
  rcases Decidable.em (r=K.os j) with rfl|n
  ·exact v.fr
  ·exact (v.c r n).2.trans ((M.same r hr).trans (v.c r n).1.symm),v.a⟩
theorem Mid.done (M:Mid K j z H) (h:∀ i,i < (K.tl (K.os j)).length->(cat (z.c (K.os j)) i).isSome=true):DvI K (j+1) z H :=
 ⟨M.S,M.V,fun i hi=>by
  rcases Decidable.em (K.os i=K.os j) with e|n
  ·rw [e]
   exact M.a.eq h
  ·exact M.yes i (Nat.lt_of_le_of_ne (Nat.le_of_lt_succ hi) fun q=>n (q▸rfl)) n,M.no,M.same⟩
theorem DvI.back (I:DvI K (j+1) z H):Mid K j z H :=
 ⟨I.S,I.V,fun i hi _=>I.yes i (Nat.lt_succ_of_lt hi),I.no,I.same,I.yes j (Nat.lt_succ_self _)▸.all⟩
theorem DvI.mid (I:DvI K j z H) (hj:K.os j < K.s.k.n):Mid K j z H:=by
 refine ⟨I.S,I.V,fun i hi _=>I.yes i hi,fun r hr h=>I.no r hr fun i hi=>h i (Nat.lt_succ_of_lt hi),I.same,?_⟩
 rcases Classical.em (∃ i,i < j/\K.os i=K.os j) with ⟨i,hi,e⟩|h
 ·rw [<-e,I.yes i hi]
  exact .all
 ·rw [I.no _ hj fun i hi q=>h ⟨i,hi,q⟩]
  exact .blank
theorem full_at {b:List UInt8} {i:Nat} (h:i < b.length):(cat (b.map some) i).isSome=true:=by rw [cat_map,List.getElem?_eq_getElem h];rfl
end
noncomputable abbrev dvF (K:DK) (T:Nat->Option AV) (r j t:Option AV):List (Option AV):=[T 0,T 1,T 2,some (.int (K.y:Int)),some (.int (K.z:Int)),some (.int (K.t:Int)),some (.int (K.s.k.n:Int)),some (.int (K.s.lim:Int)),T 8,some (.ref K.lc),T 10,r,T 12,T 13,T 14,T 15,T 16,T 17,T 18,T 19,T 20,some (.ref K.s.b),some (.ref K.s.cl),some (.ref K.lw),some (.ref K.lo),j,t,T 27,T 28,T 29]
theorem miss_some {c:Nat->Cell} {n r:Nat} (hr:r < n) (h:holeF (c r) < (c r).length):(missF c n 0).isSome=true:=by
 cases e:missF c n 0 with
 | some p=>rfl
 | none=>exact absurd h (miss_full e hr)
theorem blank_hole {n:Nat} (h:0 < n):holeF (List.replicate n none) < (List.replicate n (none:Option UInt8)).length:=by
 cases n with
 | zero=>exact absurd h (Nat.lt_irrefl 0)
 | succ n=>exact Nat.succ_pos _
theorem missF_congr {c c':Nat->Cell}:∀ (n r:Nat),(∀ i,r<=i->i < r + n->c i=c' i)->missF c n r=missF c' n r
 | 0,_,_=>rfl
 | n+1,r,h=>by rw [missF,missF,h r (Nat.le_refl _) (Nat.lt_add_of_pos_right (Nat.succ_pos _)),missF_congr n (r+1) fun i h1 h2=>h i (Nat.le_of_succ_le h1) (Nat.lt_of_lt_of_le h2 (Nat.le_of_eq (by rw [Nat.add_right_comm,Nat.add_assoc])))]
theorem miss_same {c c':Nat->Cell} {n:Nat} (h:∀ i,i < n->c i=c' i):missF c n 0=missF c' n 0:=missF_congr n 0 fun i _ hi=>h i (by rw [Nat.zero_add] at hi;exact hi)
theorem Ord.more {n j:Nat} {os:Nat->Nat} (O:Ord n os) (h:j < n):∃ r,r < n/\∀ i,i < j->os i≠r:=by
 refine Classical.byContradiction fun q=>?_
 have k:List.range n ⊆ (List.range j).map os:=fun r hr=>by
  refine Classical.byContradiction fun m=>q ⟨r,List.mem_range.mp hr,fun i hi e=>m (List.mem_map.mpr ⟨i,List.mem_range.mpr hi,e⟩)⟩
 have:=List.Nodup.length_le_of_subset List.nodup_range k
 rw [List.length_map,List.length_range,List.length_range] at this
 exact Nat.not_le.mpr h this
end Ab
end
section
namespace Ab
open PySem
section
variable {d j:Nat} {K:DK} {z:Sst} {H:AH} {A:Nat->Option AV} {Q:Fl->St->Prop} {E:KX}
theorem eq_mval' {H:AH} {o o':Option (Nat×Nat)} {k:Bool->Prop} (e:o=o') (h:k true):eqP H (mval o) (mval o') k:=e▸eq_mval h
theorem dv7 (k:K.Ok) {r t:Option AV} (I:DvI K (j+1) z H) (hQ:Q .next ⟨dvF K A r (some (.int (j:Int))) t,H⟩) :
  vSs T (callN T (d + 4)) b_law_11_7 ⟨dvF K A r (some (.int (j:Int))) t,H⟩ Q E:=by
 have n2:=k.n2
 have en:(K.s.k.n:Int) - 1=((K.s.k.n - 1:Nat):Int):=(Int.ofNat_sub (Nat.le_of_succ_le n2)).symm
 have pos:0 < K.s.k.n - 1:=Nat.sub_pos_of_lt n2
 refine ⟨en▸Int.ofNat_lt.mpr pos,?_⟩
 rw [en]
 rcases Decidable.em (j=K.y % (K.s.k.n - 1)) with g|g
 ·have lt:j+1 < K.s.k.n:=Nat.add_lt_of_lt_sub (g▸Nat.mod_lt _ pos)
  obtain ⟨r,hr,hn⟩:=k.O.more lt
  have m:=miss_some (c:=z.c) hr (by rw [I.no r hr hn];exact blank_hole (k.t0 hr))
  refine ifT (Int.ofNat_inj.mpr g) (mth I.S.bx.hb rfl (missing_spec I.S.bx ⟨rfl,hole_spec I.S.tb (eq_mval' (miss_same fun i hi=>(I.same i hi).symm) ?_)⟩))
  exact ⟨rfl,lruns_short I.S.bx m (.same rfl hQ)⟩
 ·exact ifF (fun q=>g (Int.ofNat_inj.mp q)) hQ
noncomputable abbrev dvG (K:DK) (A:Nat->Option AV) (j:Nat):List (Option AV):=dvF K A (some (.int (K.os j:Int))) (some (.int (j:Int))) (some (.bytes (K.tl (K.os j))))
theorem dv6 (k:K.Ok) (I:DvI K (j+1) z H) (hj:K.os j < K.s.k.n) (hQ:∀ z' H',DvI K (j+1) z' H'->Q .next ⟨dvG K A j,H'⟩):vSs T (callN T (d + 4)) b_law_11_6 ⟨dvG K A j,H⟩ Q E:=by
 refine ⟨by decide,?_⟩
 rcases Decidable.em (((j:Int) + (K.z:Int)) % 9=0) with g|g
 ·have M:=I.back
  refine ifT g ⟨rfl,gv_spec (o:=0) M.S hj (M.same _ hj) M.a (Nat.zero_le _) rfl fun H1 z1 S1 g1 v1=>?_⟩
  have M1:=M.gv S1 g1 v1
  have I1:=M1.done fun i hi=>v1.m i (I.yes j (Nat.lt_succ_self _)▸full_at hi)
  have len:=M1.a.len
  refine ⟨rfl,give_no S1 (.inr ⟨hj,by rw [len];exact Nat.lt_succ_self _⟩) ?_⟩
  refine ⟨rfl,Nat.le_trans (Nat.add_le_add_right (k.t2 hj) 1) (by decide),give_no (o:=0) S1 (.inr ⟨hj,by rw [len,List.length_append,Nat.zero_add];exact Nat.lt_succ_self _⟩) ?_⟩
  refine ⟨rfl,give_no (o:=0) (r:=K.s.k.n + j) S1 (.inl (Nat.le_add_right _ _)) ?_⟩
  exact dv7 k I1 (hQ _ _ I1)
 ·exact ifF g (dv7 k I (hQ _ _ I))
theorem dv5 (k:K.Ok) (M:Mid K j z H) (hj:K.os j < K.s.k.n) (p0:(cat (z.c (K.os j)) 0).isSome=true) (hQ:∀ z' H',DvI K (j+1) z' H'->Q .next ⟨dvG K A j,H'⟩):vSs T (callN T (d + 4)) b_law_11_5 ⟨dvG K A j,H⟩ Q E:=by
 have t2:=k.t2 hj
 rcases Decidable.em (1 < (K.tl (K.os j)).length) with g|g
 ·refine ifT (Int.ofNat_lt.mpr g) ⟨rfl,by decide,gv_spec (o:=1) M.S hj (M.same _ hj) M.a (Nat.le_of_lt g) (by rw [cutL,List.take_length]) fun H1 z1 S1 g1 v1=>?_⟩
  refine dv6 k ((M.gv S1 g1 v1).done fun i hi=>?_) hj hQ
  rcases Nat.lt_or_ge i 1 with h|h
  ·obtain rfl:=Nat.lt_one_iff.mp h
   exact v1.m _ p0
  ·exact v1.n i h (Nat.lt_of_lt_of_le hi (Nat.le_trans t2 (Nat.add_le_add_left M.S.bx.l0 1))) hi
 ·refine ifF (fun q=>g (Int.ofNat_lt.mp q)) (ifF (fun q=>g (Int.ofNat_lt.mp q)) ?_)
  exact dv6 k (M.done fun i hi=>by
   obtain rfl:=Nat.lt_one_iff.mp (Nat.lt_of_lt_of_le hi (Nat.not_lt.mp g))
   exact p0) hj hQ
theorem dv4 (k:K.Ok) (M:Mid K j z H) (hj:K.os j < K.s.k.n) (hQ:∀ z' H',DvI K (j+1) z' H'->Q .next ⟨dvG K A j,H'⟩):vSs T (callN T (d + 4)) b_law_11_4 ⟨dvG K A j,H⟩ Q E:=by
 refine ⟨rfl,gv_spec (o:=0) M.S hj (M.same _ hj) M.a (Nat.zero_le _) rfl fun H1 z1 S1 g1 v1=>?_⟩
 exact dv5 k (M.gv S1 g1 v1) hj (v1.n 0 (Nat.le_refl _) (by rw [Nat.zero_add];exact M.S.bx.l0) (k.t0 hj)) hQ
theorem dv3 (k:K.Ok) (M:Mid K j z H) (hj:K.os j < K.s.k.n) (hQ:∀ z' H',DvI K (j+1) z' H'->Q .next ⟨dvG K A j,H'⟩):vSs T (callN T (d + 4)) b_law_11_3 ⟨dvG K A j,H⟩ Q E:=by
 have t2:=k.t2 hj
 rcases Decidable.em (1 < (K.tl (K.os j)).length) with g|g
 ·refine ifT (Int.ofNat_lt.mpr g) ⟨by decide,?_⟩
  rcases Decidable.em (((K.os j:Int) + (K.z:Int)) % 2=0) with h|h
  ·refine ifT h ⟨rfl,by decide,gv_spec (o:=1) M.S hj (M.same _ hj) M.a (Nat.le_of_lt g) (by rw [cutL,List.take_length]) fun H1 z1 S1 g1 v1=>?_⟩
   exact dv4 k (M.gv S1 g1 v1) hj hQ
  ·exact ifF h (dv4 k M hj hQ)
 ·exact ifF (fun q=>g (Int.ofNat_lt.mp q)) (ifF (fun q=>g (Int.ofNat_lt.mp q)) (dv4 k M hj hQ))
theorem any_mem {ws:List Nat} {r:Nat}:(ws.map fun n:Nat=>(n:Int)).any ((r:Int)==·)=decide (r∈ws):=by
 rw [Bool.eq_iff_iff,List.any_eq_true,decide_eq_true_iff]
 exact ⟨fun ⟨x,hx,e⟩=>by
  obtain ⟨n,hn,rfl⟩:=List.mem_map.mp hx
  exact Int.ofNat_inj.mp (eq_of_beq e)▸hn,fun h=>⟨_,List.mem_map.mpr ⟨r,h,rfl⟩,beq_self_eq_true _⟩⟩
theorem wsL {ws:List Nat}:(ws.map fun n:Nat=>AV.int (n:Int))=(ws.map fun n:Nat=>(n:Int)).map .int:=(List.map_map ..).symm
theorem head_at {b:List UInt8} (h:0 < b.length):b[0]?=some (b.headD 0):=by
 cases b with
 | nil=>exact absurd h (Nat.lt_irrefl 0)
 | cons x b=>rfl
theorem dv0 (k:K.Ok) (I:DvI K j z H) (hj:j < K.s.k.n) {r t:Option AV} (hQ:∀ z' H',DvI K (j+1) z' H'->Q .next ⟨dvG K A j,H'⟩):vSs T (callN T (d + 4)) b_law_11_0 ⟨dvF K A r (some (.int (j:Int))) t,H⟩ Q E:=by
 have hr:=k.O.lt j hj
 have M:=I.mid hr
 have co:=(I.V (K.lc,K.co) (.head _)).1
 have ho:=(I.V (K.lo,_) (.tail _ (.tail _ (.tail _ (.head _))))).1
 have hw:=(I.V (K.lw,_) (.tail _ (.head _))).1
 refine Lst.mk _ ho (At.mk _ (rng_at hj) (Lst.mk _ co (At.mk _ (rng_at hr) (Lst.mk _ hw ⟨_,wsL,ifX any_mem ?_⟩))))
 rcases Decidable.em (K.os j∈K.ws) with g|g
 ·have lt:(((K.ct (K.os j)).headD 0).toNat+1 + K.t % 255) % 256 < 256:=Nat.mod_lt _ (by decide)
  have e:K.tl (K.os j)=[UInt8.ofNat ((((K.ct (K.os j)).headD 0).toNat+1 + K.t % 255) % 256)]++cutL (K.ct (K.os j)) 1 (K.ct (K.os j)).length:=by
   rw [DK.tl,if_pos g,cutL,List.take_length];rfl
  have l2:=k.l2 _ hr
  have u:Upd [] H (H++[AObj.list [.int (((((K.ct (K.os j)).headD 0).toNat+1 + K.t % 255) % 256:Nat):Int)]]):=.app
  have fin:=dv3 (d:=d) (A:=A) (Q:=Q) (E:=E) k (M.upd0 u) hr hQ
  rw [dvG,e] at fin
  refine ifT g (At.mk _ (head_at (k.l0 _ hr)) ⟨by decide,by decide,.inl (Lst.mk _ getLast' ⟨[UInt8.ofNat ((((K.ct (K.os j)).headD 0).toNat+1 + K.t % 255) % 256)],one_oct lt,by decide,?_,fin⟩)⟩)
  rw [cutL,List.take_length,List.length_drop]
  exact Nat.le_trans (Nat.add_le_add_left (Nat.le_trans (Nat.sub_le _ _) l2) 1) (by decide)
 ·have e:K.tl (K.os j)=K.ct (K.os j):=if_neg g
  have fin:=dv3 (d:=d) (A:=A) (Q:=Q) (E:=E) k M hr hQ
  rw [dvG,e] at fin
  exact ifF g fin
end
end Ab
end
section
namespace Ab
open PySem
structure DvA where
 r:Option AV
 j:Option AV
 t:Option AV
 z:Sst
 H:AH
theorem miss_no {c:Nat->Cell} {n:Nat} (h:∀ r,r < n->¬ holeF (c r) < (c r).length):missF c n 0=none:=by
 have key:∀ q,q<=n->missF c n 0=missF c (n - q) q:=fun q=>by
  induction q with
  | zero=>exact fun _=>rfl
  | succ q ih=>exact fun k=>(ih (Nat.le_of_succ_le k)).trans (miss_f k (h q k))
 exact (key n (Nat.le_refl _)).trans (by rw [Nat.sub_self];rfl)
theorem miss_at {c:Nat->Cell} {n r:Nat} (hr:r < n) (h:∀ q,q < r->¬ holeF (c q) < (c q).length) (g:holeF (c r) < (c r).length):missF c n 0=some (r,holeF (c r)):=by
 have key:∀ q,q<=r->missF c n 0=missF c (n - q) q:=fun q=>by
  induction q with
  | zero=>exact fun _=>rfl
  | succ q ih=>exact fun k=>(ih (Nat.le_of_succ_le k)).trans (miss_f (Nat.lt_trans k hr) (h q k))
 exact (key r (Nat.le_refl _)).trans (miss_t hr g)
theorem hole_full:∀ b:List UInt8,holeF (b.map some)=b.length
 | []=>rfl
 | x::b=>congrArg (·+1) (hole_full b)
theorem no_hole {b:List UInt8}:¬ holeF (b.map some) < (b.map (some:UInt8->Option UInt8)).length:=by
 rw [hole_full,List.length_map]
 exact Nat.lt_irrefl _
def Full (K:DK) (z:Sst):Prop:=∀ r,r < K.s.k.n->z.c r=(K.ct r).map some
section
variable {d j:Nat} {K:DK} {z:Sst} {H:AH} {A:Nat->Option AV} {r t27 t28 t29:Option AV}
theorem dv_loop {Q:Fl->St->Prop} {E:KX} {r j t:Option AV} (k:K.Ok) (I:DvI K 0 z H) (hQ:∀ r j t z' H',DvI K K.s.k.n z' H'->vSs T (callN T (d + 4)) b_law_0_26 ⟨dvF K A r j t,H'⟩ Q E):vSs T (callN T (d + 4)) b_law_0_25 ⟨dvF K A r j t,H⟩ Q E:=by
 refine ⟨Nat.le_trans k.n1 (by decide),forN (fun _ (a:DvA)=>⟨dvF K A a.r a.j a.t,a.H⟩) (fun j a=>DvI K j a.z a.H) ⟨r,j,t,z,H⟩ I (fun j a hj I=>?_) fun a I=>hQ _ _ _ _ _ I⟩
 exact dv0 k I hj fun z' H' I'=>Fxt.mk ⟨_,_,_,z',H'⟩ rfl I'
theorem DvI.all {z:Sst} (k:K.Ok) (I:DvI K K.s.k.n z H) {r:Nat} (hr:r < K.s.k.n):z.c r=(K.tl r).map some:=by
 obtain ⟨j,hj,rfl⟩:=k.O.all r hr
 exact I.yes j hj
theorem Full.none {z:Sst} (F:Full K z):missF z.c K.s.k.n 0=none:=miss_no fun r hr=>F r hr▸no_hole
theorem Full.gd {z:Sst} (k:K.Ok) (B:Box K.s z H) (F:Full K z) {r:Nat} (hr:r < K.s.k.n):Ab.gd K.s z r=true:=by
 refine decide_eq_true ?_
 rw [F r hr,octs_map,B.sz r hr,F r hr,List.length_map,k.ck r hr]
 exact ⟨rfl,rfl⟩
theorem fin_spec {Q:AV->AH->Prop} {E:Nat->AH->Prop} {j t:Option AV} (k:K.Ok) (S:Side K.s z H) (V:Env K.L K.s z H) (F:Full K z) (hQ:∀ H',H'[0]?=some K.z0->Q (.bool true) H') :
  vSs T (callN T (d + 4)) b_law_0_28 ⟨dvF K A r j t,H⟩ (retK Q) fun c st=>st.on fun _ H=>E c H:=by
 refine ⟨rfl,lruns_good S.bx F.none (fun r hr=>F.gd k S.bx hr) fun H' u h=>?_⟩
 have e:((List.range K.s.k.n).map fun r=>AV.bytes (octs (z.c r)))=(List.range K.s.k.n).map fun r=>.bytes (K.ct r):=List.map_congr_left fun r hr=>by rw [F r (List.mem_range.mp hr),octs_map]
 exact .same (same_list (e▸h) (u.get0 (V (K.lc,K.co) (.head _)).1) fun x=>rfl) (hQ _ (u.get0 (V (0,K.z0) (.tail _ (.tail _ (.head _)))).1))
end
end Ab
end
section
namespace Ab
open PySem
section
variable {s:SC} {z:Sst} {H:AH}
theorem left_len (r:Nat):(leftC s z r).length=(z.c r).length:=by
 cases g:gd s z r with
 | true=>rw [left_t g]
 | false=>rw [left_f g,List.length_replicate]
theorem neL {x y w:Nat} (e:x=y) (h:y≠w):x≠w:=e▸h
theorem Side.bn (S:Side s z H) {x:Nat} {L:List AV} (e:H[x]?=some (.list L)):s.b≠x:=fun q=>nomatch (q▸S.bx.hb).symm.trans e
theorem Side.moved {h':Nat->Nat} {H1:AH} (S:Side s z H) (M:Moved s z ⟨h',z.l,leftC s z,z.f⟩ H H1):Side s ⟨h',z.l,leftC s z,z.f⟩ H1/\Go s z ⟨h',z.l,leftC s z,z.f⟩ H H1:=by
 have m:=fun {x:Nat} {o:AObj} (n:x≠s.hl) (e:H[x]?=some o)=>M.u.get e fun q=>n (List.mem_singleton.mp q)
 have nh:∀ r,r < s.k.n->∀ x,x < H.length->z.h r≠x->h' r≠x:=fun r hr x lx n=>(M.nh r hr).elim (fun e=>neL e n) fun g=>Nat.ne_of_gt (Nat.lt_of_lt_of_le lx g)
 have cn:=ltOf S.tb.hc
 refine ⟨⟨⟨S.bx.man.upd M.u fun x h=>List.mem_singleton.mp h▸S.bx.hN,m (S.bn S.bx.hh) S.bx.hb,M.hh,M.ho,fun r hr=>(S.bx.sz r hr).trans (left_len r).symm,fun r hr=>Nat.le_trans (Nat.le_of_eq (left_len r)) (S.bx.le hr),S.bx.l1,S.bx.l0,S.bx.hN,fun r hr=>nh r hr _ (ltOf S.bx.hh) (S.bx.ne r hr)⟩,
  ⟨m S.hc S.tb.hc,fun r hr=>m (S.lh r hr) (S.tb.ho r hr),S.tb.nl⟩,S.hc,S.lh,S.lc,S.li,fun r hr=>nh r hr _ cn (S.nc r hr),fun r hr q hq=>nh r hr _ (ltOf (S.tb.ho q hq)) (S.nl r hr q hq),S.Nc,S.Nl,fun r hr=>(S.fc r hr).trans (left_len r).symm⟩,
  ⟨M.u.ch (F:=Foot s z) fun x h=>.inl (List.mem_singleton.mp h),fun _ _=>.inl rfl,M.nh⟩⟩
theorem Side.reset {r:Nat} {o:AObj} (S:Side s z H) (hr:r < s.k.n) {c:Cell} (hc:c.length=(z.c r).length) :
  Side s ⟨z.h,up z.l r (H++[o]).length,z.c,up z.f r c⟩ ((H++[o]++[fl c]).set s.cl (refs s.k.n (up z.l r (H++[o]).length))) ∧
  Go s z ⟨z.h,up z.l r (H++[o]).length,z.c,up z.f r c⟩ H ((H++[o]++[fl c]).set s.cl (refs s.k.n (up z.l r (H++[o]).length))):=by
 have u2:Upd [] H (H++[o]++[fl c]):=.trans .app .app
 have le:H.length<=(H++[o]).length:=(Upd.app (S:=[]) (G:=[o])).le
 have lt:=fun {x:Nat} {o':AObj} (e:H[x]?=some o')=>Nat.ne_of_lt (Nat.lt_of_lt_of_le (ltOf e) le)
 have u:Upd [s.cl] H ((H++[o]++[fl c]).set s.cl (refs s.k.n (up z.l r (H++[o]).length))):=u2.nil.trans (.set (.head _))
 have B:=S.bx.upd u (fun x h=>List.mem_singleton.mp h▸⟨S.Nc,S.hc⟩) (fun q=>S.bn S.tb.hc (List.mem_singleton.mp q)) fun q hq h=>S.nc q hq (List.mem_singleton.mp h)
 have off:∀ {x q:Nat} {o':AObj},H[x]?=some o'->z.l q≠x->up z.l r (H++[o]).length q≠x:=fun {x q o'} e n=>by
  rcases Decidable.em (q=r) with rfl|g
  ·rw [up_at]
   exact (lt e).symm
  ·rw [up_ne g]
   exact n
 refine ⟨⟨⟨B.man,B.hb,B.hh,B.ho,B.sz,B.le',B.l1,B.l0,B.hN,B.ne⟩,⟨getSet (u2.get0 S.tb.hc),fun q hq=>?_,S.tb.nl⟩,S.hc,fun q hq=>off S.bx.hh (S.lh q hq),fun q hq=>off S.tb.hc (S.lc q hq),fun q hq p hp h=>?_,S.nc,fun q hq p hp=>(off (S.bx.ho q hq) (S.nl q hq p hp).symm).symm,S.Nc,fun q hq=>?_,fun q hq=>?_⟩,
  ⟨u.ch (F:=Foot s z) fun x h=>.inr (.inl (List.mem_singleton.mp h)),fun q hq=>?_,fun _ _=>.inl rfl⟩⟩
 ·rcases Decidable.em (q=r) with rfl|g
  ·exact idx up_at ((getNe (lt S.tb.hc).symm (gLast _ _)).trans (congrArg (fun c=>some (fl c)) up_at.symm))
  ·exact idx (up_ne g) ((getNe (S.lc q hq) (u2.get0 (S.tb.ho q hq))).trans (congrArg (fun c=>some (fl c)) (up_ne g).symm))
 ·rcases Decidable.em (q=r) with rfl|g
  ·rcases Decidable.em (p=q) with k|k
   ·exact k.symm
   ·exact absurd ((up_at.symm.trans h).trans (up_ne k)).symm (lt (S.tb.ho p hp))
  ·rcases Decidable.em (p=r) with rfl|k
   ·exact absurd ((up_ne g).symm.trans (h.trans up_at)) (lt (S.tb.ho q hq))
   ·exact S.li q hq p hp ((up_ne g).symm.trans (h.trans (up_ne k)))
 ·rcases Decidable.em (q=r) with rfl|g
  ·exact Nat.le_trans S.bx.hN (Nat.le_trans (Nat.le_of_lt (ltOf S.bx.hh)) (Nat.le_trans le (Nat.le_of_eq up_at.symm)))
  ·exact Nat.le_trans (S.Nl q hq) (Nat.le_of_eq (up_ne g).symm)
 ·rcases Decidable.em (q=r) with rfl|g
  ·exact (congrArg List.length up_at).trans hc
  ·exact (congrArg List.length (up_ne g)).trans (S.fc q hq)
 ·rcases Decidable.em (q=r) with rfl|g
  ·exact .inr (Nat.le_trans le (Nat.le_of_eq up_at.symm))
  ·exact .inl (up_ne g)
end
end Ab
end
section
namespace Ab
open PySem
noncomputable abbrev dwF (K:DK) (A:Nat->Option AV) (r j t t27 t28 t29:Option AV):List (Option AV):=[A 0,A 1,A 2,some (.int (K.y:Int)),some (.int (K.z:Int)),some (.int (K.t:Int)),some (.int (K.s.k.n:Int)),some (.int (K.s.lim:Int)),A 8,some (.ref K.lc),A 10,r,A 12,A 13,A 14,A 15,A 16,A 17,A 18,A 19,A 20,some (.ref K.s.b),some (.ref K.s.cl),some (.ref K.lw),some (.ref K.lo),j,t,t27,t28,t29]
noncomputable abbrev blank (b:List UInt8):Cell:=List.replicate b.length none
structure WOk (K:DK):Prop where
 lt:∀ w∈K.ws,w < K.s.k.n
 len:K.ws.length<=3
 nd:K.ws.Nodup
structure WrI (K:DK) (j:Nat) (z:Sst) (H:AH):Prop where
 S:Side K.s z H
 V:Env K.L K.s z H
 b:∀ r,r < K.s.k.n->r∈K.ws->z.c r=blank (K.ct r)
 c:∀ r,r < K.s.k.n->r∉K.ws->z.c r=(K.ct r).map some
 f:∀ r,r < K.s.k.n->r∉K.ws\/r∈K.ws.take j->z.f r=z.c r
section
variable {K:DK} {j r o:Nat} {z z':Sst} {H H':AH}
theorem WrI.gv (I:WrI K j z H) (k:K.Ok) (hr:r < K.s.k.n) (n:r∉K.ws) (S:Side K.s z' H') (g:Go K.s z z' H H') (v:Gv K.s.lim z z' r o (K.ct r)):WrI K j z' H' :=
 ⟨S,I.V.go g,fun q hq h=>(v.c q fun e=>n (e▸h)).1.trans (I.b q hq h),fun q hq h=>by
  rcases Decidable.em (q=r) with rfl|e
  ·exact v.a.eq fun i hi=>v.m i (I.c q hq h▸full_at hi)
  ·exact (v.c q e).1.trans (I.c q hq h),fun q hq h=>by
  rcases Decidable.em (q=r) with rfl|e
  ·exact v.fr
  ·exact (v.c q e).2.trans ((I.f q hq h).trans (v.c q e).1.symm)⟩
theorem WrI.reset (I:WrI K j z H) (e:K.ws[j]?=some r) (hr:r < K.s.k.n) {o:AObj} :
  WrI K (j+1) ⟨z.h,up z.l r (H++[o]).length,z.c,up z.f r (blank (K.ct r))⟩ ((H++[o]++[fl (blank (K.ct r))]).set K.s.cl (refs K.s.k.n (up z.l r (H++[o]).length))):=by
 have hb:=I.b r hr (List.mem_of_getElem? e)
 obtain ⟨S,g⟩:=I.S.reset (o:=o) hr (c:=blank (K.ct r)) (by rw [hb])
 refine ⟨S,I.V.go g,I.b,I.c,fun q hq h=>?_⟩
 rcases Decidable.em (q=r) with rfl|n
 ·exact up_at.trans hb.symm
 ·refine (up_ne n).trans (I.f q hq (h.imp id fun h=>?_))
  rw [List.take_add_one,e] at h
  exact (List.mem_append.mp h).elim id fun h=>absurd (List.mem_singleton.mp h) n
end
structure WrA where
 r:Option AV
 t:Option AV
 z:Sst
 H:AH
section
variable {d:Nat} {K:DK} {z:Sst} {H:AH} {A:Nat->Option AV} {Q:Fl->St->Prop} {E:KX}
theorem fl_blank {k:Nat}:fl (List.replicate k none)=.list (List.replicate k (.bool false)):=by rw [fl,List.map_replicate,List.map_replicate];rfl
theorem wr_near {j w:Nat} {jj tt t28 t29:Option AV} (k:K.Ok) (I:WrI K j z H) {nr:Nat} (hn:nr < K.s.k.n) (hQ:∀ z' H',WrI K j z' H'->Q .next ⟨dwF K A (some (.int (w:Int))) jj tt (some (.int (nr:Int))) t28 t29,H'⟩) :
  vSs T (callN T (d + 4)) b_law_27_2 ⟨dwF K A (some (.int (w:Int))) jj tt (some (.int (nr:Int))) t28 t29,H⟩ Q E:=by
 have co:=(I.V (K.lc,K.co) (.head _)).1
 have hw:=(I.V (K.lw,_) (.tail _ (.head _))).1
 refine Lst.mk _ hw ⟨_,wsL,ifX (congrArg not any_mem) ?_⟩
 rcases Decidable.em (nr∈K.ws) with g|g
 ·refine niT g ?_
  rw [any_mem]
  exact niT g (hQ _ _ I)
 ·refine niF g ⟨rfl,Lst.mk _ co (At.mk _ (rng_at hn) ?_)⟩
  exact gv_spec (o:=0) I.S hn (I.f nr hn (.inl g)) (I.c nr hn g▸.all) (Nat.zero_le _) rfl fun H1 z1 S1 g1 v1=>hQ _ _ (I.gv k hn g S1 g1 v1)
theorem wr_turn {j w:Nat} {jj tt t27 t28 t29:Option AV} (k:K.Ok) (I:WrI K j z H) (e:K.ws[j]?=some w) (hw:w < K.s.k.n) (hQ:∀ nr z' H',WrI K (j+1) z' H'->Q .next ⟨dwF K A (some (.int (w:Int))) jj tt nr t28 t29,H'⟩) :
  vSs T (callN T (d + 4)) b_law_27_0 ⟨dwF K A (some (.int (w:Int))) jj tt t27 t28 t29,H⟩ Q E:=by
 have co:=(I.V (K.lc,K.co) (.head _)).1
 have pos:0 < K.s.k.n:=Nat.lt_of_lt_of_le (by decide) k.n2
 refine Lst.mk _ (getApp co) (At.mk _ (rng_at hw) (Lst.mk _ (gLast _ _) ⟨Nat.le_trans (k.l2 w hw) (by decide),Lst.mk _ (getApp (getApp I.S.tb.hc)) ⟨len_refs.symm▸hw,?_⟩⟩))
 rw [rng_set (g:=AV.ref),<-fl_blank]
 refine ⟨Int.ofNat_lt.mpr pos,?_⟩
 exact wr_near (nr:=(w+1) % K.s.k.n) k (I.reset e hw) (Nat.mod_lt _ pos) fun z' H' I'=>hQ _ z' H' I'
theorem wr_loop {r jj tt t27 t28 t29:Option AV} (k:K.Ok) (W:WOk K) (I:WrI K 0 z H) (hQ:∀ r t27 z' H',WrI K K.ws.length z' H'->vSs T (callN T (d + 4)) b_law_25_3 ⟨dwF K A r jj tt t27 t28 t29,H'⟩ Q E) :
  vSs T (callN T (d + 4)) b_law_25_2 ⟨dwF K A r jj tt t27 t28 t29,H⟩ Q E:=by
 refine Lst.mk _ (I.V (K.lw,_) (.tail _ (.head _))).1 (forL (fun _ (a:WrA)=>⟨dwF K A a.r jj tt a.t t28 t29,a.H⟩) (fun j a=>WrI K j a.z a.H) ⟨r,t27,z,H⟩ I (fun n a J=>(J.V (K.lw,_) (.tail _ (.head _))).1) (fun j w a e J=>?_) fun a J=>hQ _ _ _ _ J)
 exact wr_turn k J e (W.lt w (List.mem_of_getElem? e)) fun nr z' H' I'=>Fxt.mk ⟨_,nr,z',H'⟩ rfl I'
end
end Ab
end
section
namespace Ab
open PySem
structure RfI (K:DK) (q:Nat) (z:Sst) (H:AH):Prop where
 S:Side K.s z H
 V:Env K.L K.s z H
 b:∀ r,r < K.s.k.n->r∈K.ws.take q->z.c r=blank (K.ct r)
 c:∀ r,r < K.s.k.n->r∉K.ws.take q->z.c r=(K.ct r).map some
 f:∀ r,r < K.s.k.n->z.f r=z.c r
structure InI (K:DK) (q w m:Nat) (z:Sst) (H:AH):Prop where
 S:Side K.s z H
 V:Env K.L K.s z H
 b:∀ r,r < K.s.k.n->r∈K.ws.take q->z.c r=blank (K.ct r)
 c:∀ r,r < K.s.k.n->r≠w->r∉K.ws.take q->z.c r=(K.ct r).map some
 f:∀ r,r < K.s.k.n->z.f r=z.c r
 a:Agr (z.c w) (K.ct w)
 g:∀ i,i < K.s.lim * m->i < (K.ct w).length->(cat (z.c w) i).isSome=true
section
variable {K:DK} {q w m:Nat} {z z':Sst} {H H':AH}
theorem InI.gv (I:InI K q w m z H) (hq:w∉K.ws.take q) (S:Side K.s z' H') (g:Go K.s z z' H H') (v:Gv K.s.lim z z' w (0 + K.s.lim * m) (K.ct w)):InI K q w (m+1) z' H' :=
 ⟨S,I.V.go g,fun r hr h=>(v.c r fun e=>hq (e▸h)).1.trans (I.b r hr h),fun r hr n h=>(v.c r n).1.trans (I.c r hr n h),fun r hr=>by
  rcases Decidable.em (r=w) with rfl|n
  ·exact v.fr
  ·exact (v.c r n).2.trans ((I.f r hr).trans (v.c r n).1.symm),v.a,fun i hi hl=>by
  rcases Nat.lt_or_ge i (K.s.lim * m) with h|h
  ·exact v.m i (I.g i h hl)
  ·exact v.n i (by rw [Nat.zero_add];exact h) (by rw [Nat.zero_add];exact hi) hl⟩
theorem InI.done (I:InI K q w m z H) (h:(K.ct w).length<=K.s.lim * m):RfI K q z H :=
 ⟨I.S,I.V,I.b,fun r hr n=>by
  rcases Decidable.em (r=w) with rfl|e
  ·exact I.a.eq fun i hi=>I.g i (Nat.lt_of_lt_of_le hi h) hi
  ·exact I.c r hr e n,I.f⟩
theorem RfI.start (I:RfI K (q+1) z H) (W:WOk K) (e:K.ws[q]?=some w):InI K q w 0 z H:=by
 have tk:K.ws.take (q+1)=K.ws.take q++[w]:=by rw [List.take_add_one,e];rfl
 have hw:=W.lt w (List.mem_of_getElem? e)
 have b:=I.b w hw (tk▸List.mem_append_right _ (.head _))
 exact ⟨I.S,I.V,fun r hr h=>I.b r hr (tk▸List.mem_append_left _ h),fun r hr n h=>I.c r hr fun k=>(List.mem_append.mp (tk▸k)).elim h fun k=>n (List.mem_singleton.mp k),I.f,b▸.blank,fun i hi=>absurd hi (Nat.not_lt_zero _)⟩
theorem nd_take {ws:List Nat} {q w:Nat} (h:ws.Nodup) (e:ws[q]?=some w):w∉ws.take q:=fun k=>by
 obtain ⟨i,hi,g⟩:=List.getElem_of_mem k
 rw [List.length_take] at hi
 have iq:=Nat.lt_of_lt_of_le hi (Nat.min_le_left _ _)
 have e2:ws[i]?=some w:=by rw [<-g,List.getElem_take];exact List.getElem?_eq_getElem _
 exact Nat.ne_of_lt iq ((List.getElem?_inj (Nat.lt_of_lt_of_le hi (Nat.min_le_right _ _)) h).mp (e2.trans e.symm))
end
section
variable {d:Nat} {K:DK} {z:Sst} {H:AH} {A:Nat->Option AV} {Q:Fl->St->Prop} {E:KX}
theorem eq_miss {c:Nat->Cell} {n w:Nat} {k:Bool->Prop} (e:missF c n 0=some (w,0)) (h:k true):eqP H (mval (missF c n 0)) (.tup [.int (w:Int),.int 0]) k:=by
 rw [e]
 exact .same (same_tup (same_cons rfl (same_cons rfl same_nil))) h
theorem hole_blank {n:Nat}:holeF (List.replicate n (none:Option UInt8))=0:=by cases n <;> rfl
theorem miss_first {w:Nat} (k:K.Ok) (hw:w < K.s.k.n) (hb:z.c w=blank (K.ct w)) (hf:∀ r,r < w->z.c r=(K.ct r).map some):missF z.c K.s.k.n 0=some (w,0):=by
 have e:=miss_at (c:=z.c) hw (fun q hq=>hf q hq▸no_hole) (hb▸blank_hole (k.l0 w hw))
 rw [hb,hole_blank] at e
 exact e
theorem rf_in {q w m kk:Nat} {jj tt t27:Option AV} (k:K.Ok) (W:WOk K) (hw:w < K.s.k.n) (hq:w∉K.ws.take q) (I:InI K q w m z H) (hm:K.s.lim * m < (K.ct w).length) (hQ:∀ z' H',InI K q w (m+1) z' H'->Q .next ⟨dwF K A (some (.int (w:Int))) jj tt t27 (some (.int (kk:Int))) (some (.int ((0 + K.s.lim * m:Nat):Int))),H'⟩) :
  vSs T (callN T (d + 4)) b_law_32_0 ⟨dwF K A (some (.int (w:Int))) jj tt t27 (some (.int (kk:Int))) (some (.int ((0 + K.s.lim * m:Nat):Int))),H⟩ Q E:=by
 have co:=(I.V (K.lc,K.co) (.head _)).1
 have ol:0 + K.s.lim * m<=(K.ct w).length:=by rw [Nat.zero_add];exact Nat.le_of_lt hm
 refine ⟨rfl,Lst.mk _ co (At.mk _ (rng_at hw) ⟨Nat.lt_of_le_of_lt (Nat.le_trans ol (k.l2 w hw)) (by decide),?_⟩)⟩
 refine gv_spec I.S hw (I.f w hw) I.a ol (by rw [cutL,List.take_length]) fun H1 z1 S1 g1 v1=>?_
 have I1:=I.gv hq S1 g1 v1
 have hl:=(I1.V (K.lw,_) (.tail _ (.head _))).1
 refine Lst.mk _ hl ?_
 rcases Decidable.em ((kk:Int)=((K.ws.map fun n:Nat=>AV.int (n:Int)).length:Int) - 1) with g|g
 ·exact ifT g (mth I1.S.bx.hb rfl (missing_spec I1.S.bx ⟨rfl,hole_spec I1.S.tb (eq_mval' (miss_same fun i hi=>(I1.f i hi).symm) (hQ _ _ I1))⟩))
 ·exact ifF g (ifF g (hQ _ _ I1))
end
end Ab
end
section
namespace Ab
open PySem
theorem cnt_lt {m l n:Nat} (h0:0 < l) (h:m < (n - 0 + (l - 1)) / l):l * m < n:=by
 have q:=(Nat.le_div_iff_mul_le h0).mp h
 rw [Nat.succ_mul,Nat.mul_comm] at q
 omega
theorem cnt_end {l n:Nat} (h0:0 < l):n<=l * ((n - 0 + (l - 1)) / l):=by
 have q:=Nat.lt_mul_div_succ (n - 0 + (l - 1)) h0
 rw [Nat.mul_succ] at q
 omega
structure RfA where
 r:Option AV
 k:Option AV
 o:Option AV
 z:Sst
 H:AH
section
variable {d:Nat} {K:DK} {z:Sst} {H:AH} {A:Nat->Option AV} {Q:Fl->St->Prop} {E:KX}
theorem rf_turn {q kk:Nat} {r jj tt t27 o:Option AV} (k:K.Ok) (W:WOk K) (I:RfI K (q+1) z H) (hk:kk + (q+1)=K.ws.length) (hQ:∀ r o z' H',RfI K q z' H'->Q .next ⟨dwF K A r jj tt t27 (some (.int (kk:Int))) o,H'⟩) :
  vSs T (callN T (d + 4)) b_law_30_0 ⟨dwF K A r jj tt t27 (some (.int (kk:Int))) o,H⟩ Q E:=by
 have hl:=(I.V (K.lw,_) (.tail _ (.head _))).1
 have ql:q < K.ws.length:=hk▸Nat.lt_of_lt_of_le (Nat.lt_succ_self q) (Nat.le_add_left _ _)
 obtain ⟨w,e⟩:∃ w,K.ws[q]?=some w:=⟨_,List.getElem?_eq_getElem ql⟩
 have hw:=W.lt w (List.mem_of_getElem? e)
 have le:(K.ws.map fun n:Nat=>AV.int (n:Int)).length=kk + (q+1):=(List.length_map _).trans hk.symm
 have ew:(K.ws.map fun n:Nat=>AV.int (n:Int))[q]?=some (.int (w:Int)):=by rw [List.getElem?_map,e];rfl
 have ei:((K.ws.map fun n:Nat=>AV.int (n:Int)).length:Int) - 1 - (kk:Int)=(q:Int):=by rw [le];omega
 refine Lst.mk _ hl (Nt.mk (a:=.int (((K.ws.map fun n:Nat=>AV.int (n:Int)).length:Int) - 1 - (kk:Int))) q (congrArg AV.int ei) (Lst.mk _ hl (At.mk _ ew (Lst.mk _ hl ?_))))
 have l2:=k.l2 w hw
 have l0:=I.S.bx.l0
 have J:=I.start W e
 have rest:vSs T (callN T (d + 4)) b_law_30_2 ⟨dwF K A (some (.int (w:Int))) jj tt t27 (some (.int (kk:Int))) o,H⟩ Q E:=by
  refine Lst.mk _ (I.V (K.lc,K.co) (.head _)).1 (At.mk _ (rng_at hw) ⟨rfl,⟨by decide,Nat.le_trans l2 (by decide),l0,Nat.le_trans I.S.bx.l1 (by decide)⟩,?_⟩)
  refine forN (fun m (a:RfA)=>⟨dwF K A (some (.int (w:Int))) jj tt t27 (some (.int (kk:Int))) a.o,a.H⟩) (fun m a=>InI K q w m a.z a.H) ⟨none,none,o,z,H⟩ J (fun m a hm J=>?_) fun a J=>hQ _ _ _ _ (J.done (cnt_end l0))
  exact rf_in k W hw (nd_take W.nd e) J (cnt_lt l0 hm) fun z' H' J'=>Fxt.mk ⟨none,none,_,z',H'⟩ rfl J'
 rcases Decidable.em ((kk:Int)=((K.ws.map fun n:Nat=>AV.int (n:Int)).length:Int) - 1) with g|g
 ·have q0:q=0:=by rw [le] at g;omega
  subst q0
  have hb:=J.b
  have mi:missF z.c K.s.k.n 0=some (w,0):=miss_first k hw (I.b w hw (by rw [List.take_add_one,e];exact .head _)) fun r hr=>I.c r (Nat.lt_trans hr hw) (by rw [List.take_add_one,e];exact fun h=>Nat.ne_of_lt hr (List.mem_singleton.mp h))
  exact ifT g (mth I.S.bx.hb rfl (missing_spec I.S.bx (Lst.mk _ hl (At.mk _ ew (eq_miss mi rest)))))
 ·exact ifF g (ifF g rest)
theorem rf_loop {r jj tt t27 t28 t29:Option AV} (k:K.Ok) (W:WOk K) (I:RfI K K.ws.length z H) (hQ:∀ r t28 t29 z' H',RfI K 0 z' H'->Q .next ⟨dwF K A r jj tt t27 t28 t29,H'⟩) :
  vSs T (callN T (d + 4)) b_law_25_4 ⟨dwF K A r jj tt t27 t28 t29,H⟩ Q E:=by
 refine Lst.mk _ (I.V (K.lw,_) (.tail _ (.head _))).1 ?_
 rw [List.length_map]
 refine ⟨Nat.le_trans W.len (by decide),forN (fun kk (a:RfA)=>⟨dwF K A a.r jj tt t27 a.k a.o,a.H⟩) (fun kk a=>RfI K (K.ws.length - kk) a.z a.H) ⟨r,t28,t29,z,H⟩ I (fun kk a hk J=>?_) fun a J=>hQ _ _ _ _ _ (Nat.sub_self _▸J)⟩
 have e:K.ws.length - kk=(K.ws.length - (kk+1))+1:=by omega
 exact rf_turn k W (e▸J) (by omega) fun r o z' H' J'=>Fxt.mk ⟨r,_,o,z',H'⟩ rfl J'
theorem refill {r jj tt t27 t28 t29:Option AV} (k:K.Ok) (W:WOk K) (so:K.ws.Pairwise (·<=·)) (ne:0 < K.ws.length) (I:WrI K K.ws.length z H) (hQ:∀ r t28 t29 z' H',Side K.s z' H'->Env K.L K.s z' H'->Full K z'->Q .next ⟨dwF K A r jj tt t27 t28 t29,H'⟩) :
  vSs T (callN T (d + 4)) b_law_25_3 ⟨dwF K A r jj tt t27 t28 t29,H⟩ Q E:=by
 have hl:=(I.V (K.lw,_) (.tail _ (.head _))).1
 have J:RfI K K.ws.length z H:=⟨I.S,I.V,fun r hr h=>I.b r hr (by rw [List.take_length] at h;exact h),fun r hr h=>I.c r hr (by rw [List.take_length] at h;exact h),fun r hr=>I.f r hr ((Classical.em (r∈K.ws)).elim (fun h=>.inr (by rw [List.take_length];exact h)) .inl)⟩
 obtain ⟨w,e⟩:∃ w,K.ws[0]?=some w:=⟨_,List.getElem?_eq_getElem ne⟩
 have hm:=List.mem_of_getElem? e
 have hw:=W.lt w hm
 have lo:∀ x∈K.ws,w<=x:=by
  cases h:K.ws with
  | nil=>rw [h] at ne;exact absurd ne (Nat.lt_irrefl 0)
  | cons a l =>
   rw [h] at e so
   obtain rfl:a=w:=Option.some.inj e
   exact fun x hx=>(List.mem_cons.mp hx).elim (fun q=>Nat.le_of_eq q.symm) fun q=>(List.pairwise_cons.mp so).1 x q
 have mi:=miss_first k hw (I.b w hw hm) fun r hr=>I.c r (Nat.lt_trans hr hw) fun h=>Nat.not_le.mpr hr (lo r h)
 have ew:(K.ws.map fun n:Nat=>AV.int (n:Int))[0]?=some (.int (w:Int)):=by rw [List.getElem?_map,e];rfl
 refine mth I.S.bx.hb rfl (missing_spec I.S.bx (Lst.mk _ hl (At.mk _ ew (eq_miss mi ?_))))
 exact rf_loop k W J fun r t28 t29 z' H' J'=>hQ _ _ _ _ _ J'.S J'.V fun r hr=>J'.c r hr fun h=>nomatch h
end
end Ab
end
section
namespace Ab
open PySem
def insN (x:Nat):List Nat->List Nat
 | []=>[x]
 | y::r=>if x<=y then x::y::r else y::insN x r
def sortN:List Nat->List Nat
 | []=>[]
 | x::r=>insN x (sortN r)
theorem insT {x y:Nat} {r:List Nat} (h:x<=y):insN x (y::r)=x::y::r:=if_pos h
theorem insF {x y:Nat} {r:List Nat} (h:¬ x<=y):insN x (y::r)=y::insN x r:=if_neg h
theorem insN_map (x:Nat):∀ l:List Nat,insertI (x:Int) (l.map fun n:Nat=>(n:Int))=(insN x l).map fun n:Nat=>(n:Int)
 | []=>rfl
 | y::r=>by
  rcases Decidable.em (x<=y) with h|h
  ·exact (if_pos (Int.ofNat_le.mpr h)).trans (congrArg (List.map _) (insT h).symm)
  ·exact (if_neg (fun q=>h (Int.ofNat_le.mp q))).trans ((congrArg ((y:Int)::·) (insN_map x r)).trans (congrArg (List.map fun n:Nat=>(n:Int)) (insF h).symm))
theorem sortN_map:∀ l:List Nat,sortI (l.map fun n:Nat=>(n:Int))=(sortN l).map fun n:Nat=>(n:Int)
 | []=>rfl
 | x::r=>(congrArg (insertI (x:Int)) (sortN_map r)).trans (insN_map x (sortN r))
theorem insN_perm (x:Nat):∀ l:List Nat,(insN x l).Perm (x::l)
 | []=>.refl _
 | y::r=>by
  rcases Decidable.em (x<=y) with h|h
  ·rw [insT h]
  ·rw [insF h]
   exact ((insN_perm x r).cons y).trans (.swap x y r)
theorem sortN_perm:∀ l:List Nat,(sortN l).Perm l
 | []=>.refl _
 | x::r=>(insN_perm x (sortN r)).trans ((sortN_perm r).cons x)
theorem insN_le (x:Nat):∀ l:List Nat,l.Pairwise (·<=·)->(insN x l).Pairwise (·<=·)
 | [],_=>List.pairwise_singleton _ _
 | y::r,h=>by
  have h1:=List.pairwise_cons.mp h
  rcases Decidable.em (x<=y) with g|g
  ·rw [insT g]
   exact List.pairwise_cons.mpr ⟨fun z hz=>(List.mem_cons.mp hz).elim (fun e=>e▸g) fun q=>Nat.le_trans g (h1.1 z q),h⟩
  ·rw [insF g]
   exact List.pairwise_cons.mpr ⟨fun z hz=>(List.mem_cons.mp ((insN_perm x r).mem_iff.mp hz)).elim (fun e=>e▸Nat.le_of_not_le g) (h1.1 z),insN_le x r h1.2⟩
theorem sortN_le:∀ l:List Nat,(sortN l).Pairwise (·<=·)
 | []=>.nil
 | x::r=>insN_le x _ (sortN_le r)
theorem chk_spl {t:Nat} {b:List UInt8} (h:0 < b.length):chk (spl t b)≠chk b:=fun e=>by
 cases b with
 | nil=>exact Nat.lt_irrefl 0 h
 | cons x r =>
  have lt:(x.toNat+1 + t % 255) % 256 < 256:=Nat.mod_lt _ (by decide)
  have m:t % 255 < 255:=Nat.mod_lt _ (by decide)
  have x2:=x.toNat_lt
  have e:((UInt8.ofNat ((x.toNat+1 + t % 255) % 256)).toNat + (r.map (·.toNat)).sum) * 251 + (r.length+1) * 65537 + 7=(x.toNat + (r.map (·.toNat)).sum) * 251 + (r.length+1) * 65537 + 7:=e
  rw [ofNat_toNat lt] at e
  have:=Nat.add_right_cancel (Nat.eq_of_mul_eq_mul_right (by decide) (Nat.add_right_cancel (Nat.add_right_cancel e)))
  generalize x.toNat=y at this x2
  generalize t % 255=u at this m
  clear e lt h
  omega
theorem Side.in {s:SC} {z:Sst} {H:AH} {x:Nat} (S:Side s z H):Foot s z x->x < H.length
 | .inl e=>e▸ltOf S.bx.hh
 | .inr (.inl e)=>e▸ltOf S.tb.hc
 | .inr (.inr ⟨r,hr,e⟩)=>e▸ltOf (S.tb.ho r hr)
section
variable {d:Nat} {K:DK} {z:Sst} {H:AH} {A:Nat->Option AV} {Q:AV->AH->Prop} {E:Nat->AH->Prop}
noncomputable abbrev DK.two (K:DK) (l:Nat):DK:={ K with lw:=l,ws:=sortN K.ws }
theorem end_bad {r j t:Option AV} (k:K.Ok) (W:WOk K) (I:DvI K K.s.k.n z H) (ne:0 < K.ws.length) (hQ:∀ H',H'[0]?=some K.z0->Q (.bool true) H') :
  vSs T (callN T (d + 4)) b_law_25_0 ⟨dvF K A r j t,H⟩ (onNext (fun st=>vSs T (callN T (d + 4)) b_law_0_28 st (retK Q) fun c st=>st.on fun _ H=>E c H) (retK Q)) fun c st=>st.on fun _ H=>E c H:=by
 obtain ⟨w,e⟩:∃ w,K.ws[0]?=some w:=⟨_,List.getElem?_eq_getElem ne⟩
 have hm:=List.mem_of_getElem? e
 have hw:=W.lt w hm
 have full:∀ r,r < K.s.k.n->¬ holeF (z.c r) < (z.c r).length:=fun r hr=>I.all k hr▸no_hole
 have gB:∀ r,r < K.s.k.n->r∈K.ws->gd K.s z r=false:=fun r hr h=>decide_eq_false fun q=>by
  have q2:=q.2
  rw [I.all k hr,octs_map,k.ck r hr,DK.tl,if_pos h] at q2
  exact chk_spl (k.l0 r hr) q2
 have gG:∀ r,r < K.s.k.n->r∉K.ws->gd K.s z r=true:=fun r hr h=>decide_eq_true (by
  rw [I.S.bx.sz r hr,I.all k hr,octs_map,k.ck r hr,DK.tl,if_neg h,List.length_map]
  exact ⟨rfl,rfl⟩)
 refine ⟨rfl,lruns_bad I.S.bx (miss_no full) hw (gB w hw hm) fun H1 h' M=>.same rfl ?_⟩
 obtain ⟨S1,g1⟩:=I.S.moved M
 have V1:=I.V.go g1
 have hl:=(V1 (K.lw,_) (.tail _ (.head _))).1
 have ml:(K.ws.map fun n:Nat=>(n:Int)).length < 64:=by rw [List.length_map];exact Nat.lt_of_le_of_lt W.len (by decide)
 refine Lst.mk _ hl ⟨_,wsL,ml,?_⟩
 rw [sortN_map,<-wsL]
 have mem:∀ {r},r∈sortN K.ws↔r∈K.ws:=fun {r}=>(sortN_perm K.ws).mem_iff
 have le:=(sortN_perm K.ws).length_eq
 have u:Upd [] H1 (H1++[natL (sortN K.ws)]):=.app
 have S2:=S1.upd0 u
 have V2:Env (K.two H1.length).L K.s ⟨h',z.l,leftC K.s z,z.f⟩ (H1++[natL (sortN K.ws)]):=fun p hp=>by
  rcases List.mem_cons.mp hp with rfl|hp
  ·exact ⟨u.get0 (V1 _ (.head _)).1,(V1 _ (.head _)).2⟩
  ·rcases List.mem_cons.mp hp with rfl|hp
   ·exact ⟨gLast _ _,fun q=>Nat.lt_irrefl _ (S1.in q)⟩
   ·have:=V1 p (.tail _ (.tail _ hp))
    exact ⟨u.get0 this.1,this.2⟩
 have k2:(K.two H1.length).Ok:=⟨k.n2,k.l0,k.l2,k.O,k.n1,k.ck⟩
 have W2:WOk (K.two H1.length):=⟨fun w hw=>W.lt w (mem.mp hw),le▸W.len,(sortN_perm K.ws).nodup_iff.mpr W.nd⟩
 have I2:WrI (K.two H1.length) 0 ⟨h',z.l,leftC K.s z,z.f⟩ (H1++[natL (sortN K.ws)]):=by
  refine ⟨S2,V2,fun r hr h=>?_,fun r hr h=>?_,fun r hr h=>h.elim (fun h=>?_) fun h=>nomatch h⟩
  ·refine (left_f (gB r hr (mem.mp h))).trans ?_
   rw [I.all k hr,List.length_map,k.tl_len hr]
  ·refine (left_t (gG r hr fun q=>h (mem.mpr q))).trans ((I.all k hr).trans ?_)
   rw [DK.tl,if_neg fun q=>h (mem.mpr q)]
  ·exact (I.same r hr).trans (left_t (gG r hr fun q=>h (mem.mpr q))).symm
 refine wr_loop (K:=K.two H1.length) (A:=A) k2 W2 I2 fun r t27 z' H' I'=>?_
 exact refill k2 W2 (sortN_le _) (le.symm▸ne) I' fun r t28 t29 z' H' S' V' F'=>fin_spec (K:=K.two H1.length) (A:=fun i=>if i=27 then t27 else if i=28 then t28 else if i=29 then t29 else A i) k2 S' V' F' hQ
theorem end_spec {r j t:Option AV} (k:K.Ok) (W:WOk K) (I:DvI K K.s.k.n z H) (hQ:∀ H',H'[0]?=some K.z0->Q (.bool true) H') :
  vSs T (callN T (d + 4)) b_law_0_26 ⟨dvF K A r j t,H⟩ (retK Q) fun c st=>st.on fun _ H=>E c H:=by
 have hl:=(I.V (K.lw,_) (.tail _ (.head _))).1
 refine mth I.S.bx.hb rfl (whole_spec I.S.bx ?_)
 rw [miss_no fun r hr=>I.all k hr▸no_hole]
 refine Lst.mk _ hl ?_
 rw [List.length_map]
 rcases Nat.eq_zero_or_pos K.ws.length with g|g
 ·refine ifF (by rw [g];decide) (fin_spec k I.S I.V (fun r hr=>?_) hQ)
  rw [I.all k hr,DK.tl,List.length_eq_zero_iff.mp g,if_neg (nofun)]
 ·exact ifT (Int.ofNat_lt.mpr g) (end_bad k W I g hQ)
end
end Ab
end
section
namespace Ab
open PySem
structure Rows (ct:Nat->List UInt8) (G:AH) (j:Nat) (l:Nat->Nat) (H:AH):Prop where
 u:Upd [] G H
 o:H[G.length]?=some (refs j l)
 ho:∀ r,r < j->H[l r]?=some (fl (blank (ct r)))/\G.length < l r
 li:∀ r,r < j->∀ q,q < j->l r=l q->r=q
theorem refs_push {j:Nat} {l:Nat->Nat} {v:Nat}:((List.range j).map fun r=>AV.ref (l r))++[AV.ref v]=(List.range (j+1)).map fun r=>AV.ref (up l j v r):=by
 rw [<-range_push (f:=fun r=>AV.ref (up l j v r)),up_at]
 exact congrArg (·++_) (List.map_congr_left fun r h=>congrArg AV.ref (up_ne (Nat.ne_of_lt (List.mem_range.mp h))).symm)
theorem Rows.next {ct:Nat->List UInt8} {G H:AH} {j:Nat} {l:Nat->Nat} {o:AObj} (J:Rows ct G j l H):Rows ct G (j+1) (up l j (H++[o]).length) ((H++[o]++[fl (blank (ct j))]).set G.length (.list (((List.range j).map fun r=>AV.ref (l r))++[AV.ref (H++[o]).length]))):=by
 have u2:Upd [] H (H++[o]++[fl (blank (ct j))]):=.trans .app .app
 have gl:G.length < (H++[o]).length:=Nat.lt_of_lt_of_le (ltOf J.o) (Upd.app (S:=[]) (G:=[o])).le
 have lt:∀ r,r < j->l r < (H++[o]).length:=fun r hr=>Nat.lt_of_lt_of_le (ltOf (J.ho r hr).1) (Upd.app (S:=[]) (G:=[o])).le
 refine ⟨(J.u.trans u2).fresh (.set (.head _)) (Nat.le_refl _),by rw [refs_push];exact getSet (u2.get0 J.o),fun r hr=>?_,fun r hr q hq e=>?_⟩
 ·rcases Decidable.em (r=j) with rfl|g
  ·exact ⟨idx up_at (getNe (Nat.ne_of_gt gl) (gLast _ _)),Nat.lt_of_lt_of_le gl (Nat.le_of_eq up_at.symm)⟩
  ·obtain ⟨o1,o2⟩:=J.ho r (Nat.lt_of_le_of_ne (Nat.le_of_lt_succ hr) g)
   exact ⟨idx (up_ne g) (getNe (Nat.ne_of_gt o2) (u2.get0 o1)),Nat.lt_of_lt_of_le o2 (Nat.le_of_eq (up_ne g).symm)⟩
 rcases Decidable.em (r=j) with rfl|g
 ·rcases Decidable.em (q=r) with rfl|k
  ·rfl
  ·rw [up_at,up_ne k] at e
   exact absurd e (Nat.ne_of_gt (lt q (Nat.lt_of_le_of_ne (Nat.le_of_lt_succ hq) k)))
 ·rcases Decidable.em (q=j) with rfl|k
  ·rw [up_at,up_ne g] at e
   exact absurd e (Nat.ne_of_lt (lt r (Nat.lt_of_le_of_ne (Nat.le_of_lt_succ hr) g)))
  ·rw [up_ne g,up_ne k] at e
   exact J.li r (Nat.lt_of_le_of_ne (Nat.le_of_lt_succ hr) g) q (Nat.lt_of_le_of_ne (Nat.le_of_lt_succ hq) k) e
structure RoA where
 l:Nat->Nat
 t:Option AV
 H:AH
section
variable {k:MC} {H H1 H2:AH} {lim hl:Nat} {h l:Nat->Nat} {ct:Nat->List UInt8}
theorem side_new (M:Man k H) (hN:k.N<=H.length) (lh:H.length < hl) (Md:Made k lim H.length hl k.n h H H1) (R:Rows ct H1 k.n l H2) (sz:∀ r,r < k.n->(k.p r).2.size=(ct r).length) (l2:∀ r,r < k.n->(ct r).length<=2) (b1:lim<=3) (b0:0 < lim) :
  Side ⟨k,H.length,hl,lim,H1.length⟩ ⟨h,l,fun r=>blank (ct r),fun r=>blank (ct r)⟩ H2:=by
 have hh:=ltOf Md.hh
 have lr:=fun r hr=>ltOf (Md.ho r hr).1
 have ll:∀ r,r < k.n->H1.length < l r:=fun r hr=>(R.ho r hr).2
 refine ⟨⟨(M.upd0 Md.u).upd0 R.u,R.u.get0 Md.hb,R.u.get0 Md.hh,fun r hr=>?_,fun r hr=>(sz r hr).trans List.length_replicate.symm,fun r hr=>?_,Nat.le_trans b1 (by decide),b0,Nat.le_trans hN (Nat.le_of_lt lh),fun r hr=>Nat.ne_of_gt (Md.ho r hr).2⟩,⟨R.o,fun r hr=>(R.ho r hr).1,Nat.le_trans (Nat.le_of_eq rfl) M.le⟩,
  Nat.ne_of_gt hh,fun r hr=>Nat.ne_of_gt (Nat.lt_trans hh (ll r hr)),fun r hr=>Nat.ne_of_gt (ll r hr),R.li,fun r hr=>Nat.ne_of_lt (lr r hr),fun r hr q hq=>Nat.ne_of_lt (Nat.lt_trans (lr r hr) (ll q hq)),Nat.le_trans hN (Nat.le_trans (Nat.le_of_lt lh) (Nat.le_of_lt hh)),fun r hr=>Nat.le_trans hN (Nat.le_trans (Nat.le_of_lt lh) (Nat.le_of_lt (Nat.lt_trans hh (ll r hr)))),fun r hr=>rfl⟩
 ·have e:=R.u.get0 (Md.ho r hr).1
  rw [pcs,str_none]
  exact e
 ·exact Nat.le_trans (Nat.le_of_eq List.length_replicate) (Nat.le_trans (l2 r hr) (by decide))
theorem new_foot {x:Nat} (lh:H.length < hl) (Md:Made k lim H.length hl k.n h H H1) (R:Rows ct H1 k.n l H2) (hx:x < H.length):¬ Foot ⟨k,H.length,hl,lim,H1.length⟩ ⟨h,l,fun r=>blank (ct r),fun r=>blank (ct r)⟩ x
 | .inl e=>Nat.lt_irrefl _ (Nat.lt_trans hx (Nat.lt_of_lt_of_le lh (Nat.le_of_eq e.symm)))
 | .inr (.inl e)=>Nat.lt_irrefl _ (Nat.lt_of_lt_of_le hx (Nat.le_trans Md.u.le (Nat.le_of_eq e.symm)))
 | .inr (.inr ⟨r,hr,e⟩)=>Nat.lt_irrefl _ (Nat.lt_trans (Nat.lt_of_lt_of_le hx Md.u.le) (Nat.lt_of_lt_of_le (R.ho r hr).2 (Nat.le_of_eq e)))
end
theorem ne_mod {a n k:Nat} (h0:0 < k) (h:k < n):a % n≠(a + k) % n:=fun e=>by
 have:=Nat.sub_mod_eq_zero_of_mod_eq e.symm
 rw [Nat.add_sub_cancel_left,Nat.mod_eq_of_lt h] at this
 exact Nat.ne_of_gt h0 this
noncomputable abbrev wrs (z n c:Nat):List Nat:=(List.range c).map fun k=>(z / 4 + 37 * k) % n
theorem wrs_nd {z n c:Nat} (hn:100<=n) (hc:c<=3):(wrs z n c).Nodup:=by
 refine List.pairwise_map.mpr (List.Pairwise.imp_of_mem ?_ (List.nodup_range (n:=c)))
 intro a b ha hb ne
 have ha:=List.mem_range.mp ha
 have hb:=List.mem_range.mp hb
 rcases Nat.lt_or_ge a b with h|h
 ·have e:z / 4 + 37 * b=(z / 4 + 37 * a) + 37 * (b - a):=by omega
  rw [e]
  exact ne_mod (by omega) (by omega)
 ·have e:z / 4 + 37 * a=(z / 4 + 37 * b) + 37 * (a - b):=by omega
  rw [e]
  exact (ne_mod (by omega) (by omega)).symm
end Ab
end
section
namespace Ab
open PySem
theorem len_nat {n:Nat} {f:Nat->Nat}:((List.range n).map f).length=n:=by rw [List.length_map,List.length_range]
noncomputable abbrev enF (A:Nat->Option AV) (y z t n lim lc m:Nat) (b f w o:Option AV):List (Option AV):=[A 0,A 1,A 2,some (.int (y:Int)),some (.int (z:Int)),some (.int (t:Int)),some (.int (n:Int)),some (.int (lim:Int)),A 8,some (.ref lc),A 10,A 11,A 12,A 13,A 14,A 15,A 16,A 17,some (.ref m),A 19,A 20,b,f,w,o,none,none,none,none,none]
section
variable {d:Nat} {H:AH} {A:Nat->Option AV} {Q:AV->AH->Prop} {E:Nat->AH->Prop}
theorem mid_w {s:SC} {z1:Sst} {y z t lc:Nat} {ct:Nat->List UInt8} {z0:AObj} (S:Side s z1 H) (V:∀ p∈[(lc,AObj.list ((List.range s.k.n).map fun r=>.bytes (ct r))),(0,z0)],H[p.1]?=some p.2/\¬ Foot s z1 p.1) (hn:100<=s.k.n) (l0:∀ r,r < s.k.n->0 < (ct r).length) (l2:∀ r,r < s.k.n->(ct r).length<=2)
  (ck:∀ r,r < s.k.n->(s.k.p r).2.check=chk (ct r)) (hc:∀ r,r < s.k.n->z1.c r=blank (ct r)) (hf:∀ r,r < s.k.n->z1.f r=z1.c r) (hQ:∀ H',H'[0]?=some z0->Q (.bool true) H') :
  vSs T (callN T (d + 4)) b_law_0_23 ⟨enF A y z t s.k.n s.lim lc s.k.m (some (.ref s.b)) (some (.ref s.cl)) none none,H⟩ (retK Q) fun c st=>st.on fun _ H=>E c H:=by
 have c3:t / 2 % 4<=3:=Nat.le_of_lt_succ (Nat.mod_lt _ (by decide))
 have n1:s.k.n<=150:=S.bx.man.le
 have pos:0 < s.k.n:=Nat.lt_of_lt_of_le (by decide) hn
 refine ⟨by decide,by decide,Nat.le_trans c3 (by decide),?_⟩
 refine forN (n:=t / 2 % 4) (fun j (b:Option AV×AH)=>⟨[b.1,some (.int (z:Int)),some (.int (s.k.n:Int))],b.2⟩) (fun j b=>RowsI H ((List.range j).map fun i=>AV.int (((z / 4 + 37 * i) % s.k.n:Nat):Int)) b) (none,H++[.list []]) ⟨.app,getLast'⟩ (fun j b hj J=>?_) fun b J=>?_
 ·have j3:=Nat.le_trans (Nat.le_of_lt hj) c3
  refine ⟨by decide,by decide,bigN (Nat.lt_of_le_of_lt j3 (by decide)),Int.ofNat_lt.mpr pos,?_⟩
  exact Lst.mk _ J.o ⟨Nat.lt_of_le_of_lt (Nat.le_trans (Nat.le_of_eq len_refs) j3) (by decide),Fxt.mk (_,_) rfl (J.push .refl (range_push (f:=fun i=>AV.int (((z / 4 + 37 * i) % s.k.n:Nat):Int))))⟩
 ·have o2:b.2[H.length]?=some (natL (wrs z s.k.n (t / 2 % 4))):=by rw [natL,wrs,List.map_map];exact J.o
  refine ⟨rfl,order_spec (Nat.le_trans (by decide) hn) n1 fun H4 lo os u g O ll=>?_⟩
  have u2:=J.u.trans u
  have S4:=S.upd0 u2
  have K:(DK.mk s y z t lc H.length lo ct (wrs z s.k.n (t / 2 % 4)) os z0).Ok:=⟨Nat.le_trans (by decide) hn,l0,l2,O,n1,ck⟩
  have W:WOk (DK.mk s y z t lc H.length lo ct (wrs z s.k.n (t / 2 % 4)) os z0):=⟨fun w hw=>by
   obtain ⟨i,_,rfl⟩:=List.mem_map.mp hw
   exact Nat.mod_lt _ pos,Nat.le_trans (Nat.le_of_eq len_nat) c3,wrs_nd hn c3⟩
  have gw:H4[H.length]?=some (natL (wrs z s.k.n (t / 2 % 4))):=u.get0 o2
  have nl:∀ {x:Nat},H.length<=x->¬ Foot s z1 x:=fun h q=>Nat.lt_irrefl _ (Nat.lt_of_lt_of_le (S.in q) h)
  have V4:Env (DK.mk s y z t lc H.length lo ct (wrs z s.k.n (t / 2 % 4)) os z0).L s z1 H4:=fun p hp=>by
   rcases List.mem_cons.mp hp with rfl|hp
   ·exact ⟨u2.get0 (V _ (.head _)).1,(V _ (.head _)).2⟩
   rcases List.mem_cons.mp hp with rfl|hp
   ·exact ⟨gw,nl (Nat.le_refl _)⟩
   rcases List.mem_cons.mp hp with rfl|hp
   ·exact ⟨u2.get0 (V _ (.tail _ (.head _))).1,(V _ (.tail _ (.head _))).2⟩
   obtain rfl:=List.mem_singleton.mp hp
   exact ⟨g,nl (Nat.le_trans J.u.le ll)⟩
  have I:DvI (DK.mk s y z t lc H.length lo ct (wrs z s.k.n (t / 2 % 4)) os z0) 0 z1 H4:=⟨S4,V4,fun i hi=>absurd hi (Nat.not_lt_zero _),fun r hr _=>by rw [K.tl_len hr];exact hc r hr,hf⟩
  exact dv_loop (A:=fun i=>if i=18 then some (.ref s.k.m) else if i < 27 then A i else none) K I fun r j t z' H' I'=>end_spec K W I' hQ
end
end Ab
end
section
namespace Ab
open PySem
structure Pre3 (k:MC) (lc:Nat) (ct:Nat->List UInt8) (z0:AObj) (H:AH):Prop where
 M:Man k H
 hN:k.N<=H.length
 gc:H[lc]?=some (.list ((List.range k.n).map fun r=>.bytes (ct r)))
 g0:H[0]?=some z0
 n0:100<=k.n
 sz:∀ r,r < k.n->(k.p r).2.size=(ct r).length
 ck:∀ r,r < k.n->(k.p r).2.check=chk (ct r)
 l0:∀ r,r < k.n->0 < (ct r).length
 l2:∀ r,r < k.n->(ct r).length<=2
theorem Pre3.upd0 {k:MC} {lc:Nat} {ct:Nat->List UInt8} {z0:AObj} {H H':AH} (P:Pre3 k lc ct z0 H) (u:Upd [] H H'):Pre3 k lc ct z0 H':=⟨P.M.upd0 u,Nat.le_trans P.hN u.le,u.get0 P.gc,u.get0 P.g0,P.n0,P.sz,P.ck,P.l0,P.l2⟩
section
variable {d:Nat} {H:AH} {A:Nat->Option AV} {Q:AV->AH->Prop} {E:Nat->AH->Prop}
theorem mid_b {k:MC} {lc lim y z t:Nat} {ct:Nat->List UInt8} {z0:AObj} (P:Pre3 k lc ct z0 H) (b1:lim<=3) (b0:0 < lim) (hQ:∀ H',H'[0]?=some z0->Q (.bool true) H') :
  vSs T (callN T (d + 4)) b_law_0_20 ⟨enF A y z t k.n lim lc k.m none none none none,H⟩ (retK Q) fun c st=>st.on fun _ H=>E c H:=by
 refine ⟨rfl,box_init P.M b0 fun H1 hl h lh Md=>⟨rfl,?_⟩⟩
 have gc:=Md.u.get0 P.gc
 have n1:k.n<=150:=P.M.le
 refine Lst.mk _ gc (forL (fun j (a:RoA)=>⟨[a.t],a.H⟩) (fun j a=>Rows ct H1 j a.l a.H) ⟨fun _=>0,none,H1++[.list []]⟩ ⟨.app,getLast',fun _ h=>absurd h (Nat.not_lt_zero _),fun _ h=>absurd h (Nat.not_lt_zero _)⟩ (fun j a R=>R.u.get0 gc) (fun j r a e R=>?_) fun a R=>?_)
 ·have hr:r < k.n:=List.mem_range.mp (List.mem_of_getElem? e)
  have ei:r=j:=by
   obtain ⟨h,e3⟩:=List.getElem?_eq_some_iff.mp e
   rw [List.getElem_range] at e3
   exact e3.symm
  subst ei
  refine Lst.mk _ (gLast _ _) ⟨Nat.le_trans (P.l2 r hr) (by decide),?_⟩
  rw [<-fl_blank]
  exact Lst.mk _ (getApp (getApp R.o)) ⟨Nat.lt_of_le_of_lt (Nat.le_trans (Nat.le_of_eq len_refs) (Nat.le_trans (Nat.le_of_lt hr) n1)) (by decide),Fxt.mk ⟨_,_,_⟩ rfl R.next⟩
 ·rw [List.length_range] at R
  have S:=side_new P.M P.hN lh Md R P.sz P.l2 b1 b0
  have pos:0 < k.n:=Nat.lt_of_lt_of_le (by decide) P.n0
  have mi:missF (fun r=>blank (ct r)) k.n 0=some (0,0):=(miss_at (c:=fun r=>blank (ct r)) pos (fun q hq=>absurd hq (Nat.not_lt_zero _)) (blank_hole (P.l0 0 pos))).trans (congrArg (fun h=>some (0,h)) hole_blank)
  refine mth S.bx.hb rfl (missing_spec S.bx (eq_miss mi (mth S.bx.hb rfl (whole_spec S.bx (ifX (c:=false) (congrArg Option.isNone mi) ?_)))))
  have ok:=fun {x:Nat} {o:AObj} (e:H[x]?=some o)=>And.intro ((Md.u.trans R.u).get0 e) (new_foot (ct:=ct) lh Md R (ltOf e))
  refine mid_w (A:=A) (y:=y) (z:=z) (t:=t) (lc:=lc) (ct:=ct) (z0:=z0) S (fun p hp=>?_) P.n0 P.l0 P.l2 P.ck (fun r _=>rfl) (fun r _=>rfl) hQ
  rcases List.mem_cons.mp hp with rfl|hp
  ·exact ok P.gc
  ·obtain rfl:=List.mem_singleton.mp hp
   exact ok P.g0
end
end Ab
end
section
namespace Ab
open PySem
structure Rn (n:Nat) (ct:Nat->List UInt8) (rf:Nat->RI):Prop where
 ok:∀ r,r < n->(rf r).Ok
 sz:∀ r,r < n->(rf r).size=(ct r).length
 ck:∀ r,r < n->(rf r).check=chk (ct r)
 l0:∀ r,r < n->0 < (ct r).length
 l2:∀ r,r < n->(ct r).length<=2
theorem man_p {k:MC} {H:AH} {n r:Nat} {rf:Nat->RI} (M:Man k H) (e:k.mf.runs=(List.range n).map rf) (h:k.n=n) (hr:r < k.n):(k.p r).2=rf r:=by
 have e2:(k.rs.map (·.2))[r]?=some (k.p r).2:=by rw [List.getElem?_map,MC.at hr];rfl
 rw [M.eq,e,rng_at (h▸hr)] at e2
 exact (Option.some.inj e2).symm
section
variable {d:Nat} {H:AH} {A:Nat->Option AV} {Q:AV->AH->Prop} {E:Nat->AH->Prop}
theorem mid_a {k:MC} {mf:MF} {lc lim y z t:Nat} {ct:Nat->List UInt8} {z0:AObj} (ok:mf.Ok) (P:Pre3 k lc ct z0 H) (b1:lim<=3) (b0:0 < lim) (hQ:∀ H',H'[0]?=some z0->Q (.bool true) H') :
  vSs T (callN T (d + 6)) b_law_0_19 ⟨enF (fun i=>if i=20 then some (.bytes mf.enc) else A i) y z t k.n lim lc k.m none none none none,H⟩ (retK Q) fun c st=>st.on fun _ H=>E c H:=by
 have rest:∀ {H'},Upd [] H H'->vSs T (callN T (d + 6)) b_law_0_20 ⟨enF (fun i=>if i=20 then some (.bytes mf.enc) else A i) y z t k.n lim lc k.m none none none none,H'⟩ (retK Q) fun c st=>st.on fun _ H=>E c H:=fun u=>mid_b (d:=d + 2) (P.upd0 u) b1 b0 hQ
 have l0:0 < mf.enc.length:=by
  rw [MF.enc,List.length_append]
  exact Nat.lt_of_lt_of_le (enc_pos _) (Nat.le_add_right _ _)
 have l1:=ok.encLen
 refine ⟨by decide,?_⟩
 rcases Decidable.em ((t:Int) % 2=1) with g|g
 ·have m:=Nat.mod_lt (t / 2) l0
  have e:cutL mf.enc 0 (t / 2 % mf.enc.length)++mf.enc.drop (t / 2 % mf.enc.length)=mf.enc:=by rw [cutL,List.drop_zero,List.take_append_drop]
  refine ifT g ⟨rfl,by decide,Int.ofNat_lt.mpr l0,Nat.lt_of_lt_of_le m (Nat.le_trans l1 (by decide)),?_⟩
  exact why_short ok e (fun q=>Nat.not_le.mpr m (List.drop_eq_nil_iff.mp q)) fun H' u=>.same rfl (rest u)
 ·have lt:t % 256 < 256:=Nat.mod_lt _ (by decide)
  refine ifF g ⟨rfl,by decide,.inl (Lst.mk _ getLast' ⟨[UInt8.ofNat (t % 256)],one_oct lt,Nat.le_trans (Nat.add_le_add_right l1 1) (by decide),?_⟩)⟩
  exact why_corrupt ok rfl (by rw [List.length_append];exact Nat.succ_le_succ ok.encLt) fun H' u=>.same rfl (rest (.trans .app u))
end
end Ab
end
section
namespace Ab
open PySem
section
variable {d:Nat} {H:AH} {A:Nat->Option AV} {Q:AV->AH->Prop} {E:Nat->AH->Prop}
theorem eg_of {z f n:Nat} {ck:Int} {c:List UInt8} (h:ck=(n:Int)):AV.tup [.int ((z:Int) % 12),.int (f:Int),.int ck,.bytes c,.bytes []]=.tup (RI.vals ⟨z % 12,f,n,c,[]⟩):=by
 subst h
 rfl
noncomputable abbrev mgF (A:Nat->Option AV) (s y z t n lim lc seq:Nat) (row:AV) (m:Nat) (G:AV):List (Option AV):=[A 0,A 1,some (.int (s:Int)),some (.int (y:Int)),some (.int (z:Int)),some (.int (t:Int)),some (.int (n:Int)),some (.int (lim:Int)),A 8,some (.ref lc),A 10,A 11,A 12,A 13,A 14,A 15,some (.int (seq:Int)),some row,some (.ref m),some G,none,none,none,none,none,none,none,none,none,none]
theorem mid_g {s y z t lim lc seq:Nat} {ct:Nat->List UInt8} {G:AV} {k:MC} {mf:MF} {gr:RI} {o0:AObj} (eg:G=.tup gr.vals) (gk:gr.Ok) (ok:mf.Ok) (sq:seq<=72057594037927935) (P:Pre3 k lc ct o0 H) (b1:lim<=3) (b0:0 < lim) (hQ:∀ H',H'[0]?=some o0->Q (.bool true) H') :
  vSs T (callN T (d+14)) b_law_0_17 ⟨mgF A s y z t k.n lim lc seq mf.row k.m G,H⟩ (retK Q) fun c st=>st.on fun _ H=>E c H:=by
 subst eg
 refine ⟨rfl,⟨rfl,rfl,field_spec fun f5 h5=>⟨rfl,field_spec fun f6 h6=>?_⟩⟩⟩
 have ok2:MF.Ok ⟨f5,f6,[],seq,[gr]⟩:=⟨h5,h6,sq,Nat.zero_le _,Nat.le_of_ble_eq_true rfl,fun r hr=>List.mem_singleton.mp hr▸gk⟩
 refine whole_law (mf:=⟨f5,f6,[],seq,[gr]⟩) (d:=d+1) ok2 fun H2 k2 u2 M2 e2 hN2=>⟨rfl,?_⟩
 refine ⟨rfl,octets_spec (d:=d + 2) ok fun H3 l u3 g3=>.inl (Lst.mk _ g3 ⟨mf.enc,rfl,?_⟩)⟩
 exact mid_a (d:=d + 8) (A:=fun i=>if i=2 then some (.int (s:Int)) else if i=16 then some (.int (seq:Int)) else if i=17 then some mf.row else if i=19 then some (.tup gr.vals) else A i) ok (P.upd0 (u2.trans u3)) b1 b0 hQ
noncomputable abbrev rnF (A:Nat->Option AV) (s y z t n lim lc li:Nat):List (Option AV):=[A 0,A 1,some (.int (s:Int)),some (.int (y:Int)),some (.int (z:Int)),some (.int (t:Int)),some (.int (n:Int)),some (.int (lim:Int)),A 8,some (.ref lc),some (.ref li),A 11,A 12,A 13,A 14,none,none,none,none,none,none,none,none,none,none,none,none,none,none,none]
theorem mid_r {s y z t n lim lc li:Nat} {ct:Nat->List UInt8} {rf:Nat->RI} {z0:AObj} (R:Rn n ct rf) (gc:H[lc]?=some (.list ((List.range n).map fun r=>.bytes (ct r)))) (gi:H[li]?=some (.list ((List.range n).map fun r=>.tup (rf r).vals))) (g0:H[0]?=some z0)
  (n0:100<=n) (n1:n<=141) (t4:t<=4294967295) (b1:lim<=3) (b0:0 < lim) (hQ:∀ H',H'[0]?=some z0->Q (.bool true) H') :
  vSs T (callN T (d+14)) b_law_0_12 ⟨rnF A s y z t n lim lc li,H⟩ (retK Q) fun c st=>st.on fun _ H=>E c H:=by
 have c2:s / 12 % 200<=200:=Nat.le_of_lt (Nat.mod_lt _ (by decide))
 have cl:(List.replicate (s / 12 % 200) (99:UInt8)).length<=200:=Nat.le_trans (Nat.le_of_eq List.length_replicate) c2
 have gi2:H[li]?=some (.list (((List.range n).map rf).map fun r=>.tup r.vals)):=by rw [List.map_map];exact gi
 refine ⟨by decide,by decide,rfl,Nat.le_trans c2 (by decide),?_⟩
 refine ⟨rfl,field_spec fun f3 h3=>⟨by decide,?_⟩⟩
 have sq:f3 % 72057594037927936<=72057594037927935:=Nat.le_of_lt_succ (Nat.mod_lt _ (by decide))
 refine ⟨rfl,field_spec fun f1 h1=>⟨rfl,field_spec fun f2 h2=>Lst.mk _ gi2 ?_⟩⟩
 have e3:(f3:Int) % 72057594037927936=((f3 % 72057594037927936:Nat):Int):=rfl
 rw [e3]
 generalize f3 % 72057594037927936=sq0 at sq
 have ok1:MF.Ok ⟨f1,f2,List.replicate (s / 12 % 200) 99,sq0,(List.range n).map rf⟩:=⟨h1,h2,sq,Nat.le_trans cl (by decide),by rw [List.length_map,List.length_range];exact Nat.le_trans n1 (by decide),fun r hr=>by
  obtain ⟨i,hi,rfl⟩:=List.mem_map.mp hr
  exact R.ok i (List.mem_range.mp hi)⟩
 refine ⟨rfl,whole_law (d:=d+1) ok1 fun H1 k u1 M e hN=>?_⟩
 refine ⟨by decide,rfl,field_spec fun f4 h4=>?_⟩
 have et:(4294967295:Int) - (t:Int)=((4294967295 - t:Nat):Int):=(Int.ofNat_sub t4).symm
 have kn:k.n=n:=by
  have:=M.len
  rw [e] at this
  exact this.trans (by rw [List.length_map,List.length_range])
 subst kn
 have mp:=fun {r} hr=>man_p (rf:=rf) (r:=r) M (by rw [e]) rfl hr
 have P:Pre3 k lc ct z0 H1:=⟨M,hN,u1.get0 gc,u1.get0 g0,n0,fun r hr=>mp hr▸R.sz r hr,fun r hr=>mp hr▸R.ck r hr,R.l0,R.l2⟩
 have gk:RI.Ok ⟨z % 12,f4,4294967295 - t,List.replicate (s / 12 % 200) 99,[]⟩:=⟨Nat.mod_lt _ (by decide),h4,Nat.lt_of_le_of_lt (Nat.sub_le _ _) (by decide),Nat.le_trans cl (by decide),Nat.zero_le _⟩
 have fin:=mid_g (d:=d) (H:=H1) (Q:=Q) (E:=E) (A:=fun i=>if i=10 then some (.ref li) else if i=15 then some (.bytes (List.replicate (s / 12 % 200) 99)) else A i) (s:=s) (y:=y) (z:=z) (t:=t) (eg_of (z:=z) (f:=f4) (c:=List.replicate (s / 12 % 200) 99) et) gk ok1 sq P b1 b0 hQ
 exact fin
end
end Ab
end
section
namespace Ab
open PySem
structure RnA where
 ct:Nat->List UInt8
 rf:Nat->RI
 t11:Option AV
 t12:Option AV
 t13:Option AV
 t14:Option AV
 H:AH
structure RnI (lc li:Nat) (H0:AH) (j:Nat) (ct:Nat->List UInt8) (rf:Nat->RI) (H:AH):Prop where
 u:Upd [] H0 H
 oc:H[lc]?=some (.list ((List.range j).map fun r=>.bytes (ct r)))
 oi:H[li]?=some (.list ((List.range j).map fun r=>.tup (rf r).vals))
 R:Rn j ct rf
 hc:H0.length<=lc
 hi:H0.length<=li
 ne:lc≠li
theorem RnI.upd0 {lc li:Nat} {H0 H H':AH} {j:Nat} {ct:Nat->List UInt8} {rf:Nat->RI} (I:RnI lc li H0 j ct rf H) (u:Upd [] H H'):RnI lc li H0 j ct rf H':=⟨I.u.trans u,u.get0 I.oc,u.get0 I.oi,I.R,I.hc,I.hi,I.ne⟩
theorem push_up {α:Type} {f:α->AV} {g:Nat->α} {j:Nat} {v:α}:((List.range j).map fun r=>f (g r))++[f v]=(List.range (j+1)).map fun r=>f (up g j v r):=by
 rw [<-range_push (f:=fun r=>f (up g j v r)),up_at]
 exact congrArg (·++_) (List.map_congr_left fun r h=>congrArg f (up_ne (Nat.ne_of_lt (List.mem_range.mp h))).symm)
theorem Rn.next {j:Nat} {ct:Nat->List UInt8} {rf:Nat->RI} {c:List UInt8} {x:RI} (R:Rn j ct rf) (ok:x.Ok) (sz:x.size=c.length) (ck:x.check=chk c) (l0:0 < c.length) (l2:c.length<=2):Rn (j+1) (up ct j c) (up rf j x):=by
 have k:∀ {P:List UInt8->RI->Prop},P c x->(∀ r,r < j->P (ct r) (rf r))->∀ r,r < j+1->P (up ct j c r) (up rf j x r):=fun {P} h1 h2 r hr=>by
  rcases Decidable.em (r=j) with rfl|g
  ·rw [up_at,up_at]
   exact h1
  ·rw [up_ne g,up_ne g]
   exact h2 r (Nat.lt_of_le_of_ne (Nat.le_of_lt_succ hr) g)
 exact ⟨k (P:=fun _ x=>x.Ok) ok R.ok,k (P:=fun c x=>x.size=c.length) sz R.sz,k (P:=fun c x=>x.check=chk c) ck R.ck,k (P:=fun c _=>0 < c.length) l0 R.l0,k (P:=fun c _=>c.length<=2) l2 R.l2⟩
noncomputable abbrev rlF (A:Nat->Option AV) (s y z t n lim far lc li:Nat) (t11 t12 t13 t14:Option AV):List (Option AV):=[A 0,A 1,some (.int (s:Int)),some (.int (y:Int)),some (.int (z:Int)),some (.int (t:Int)),some (.int (n:Int)),some (.int (lim:Int)),some (.int (far:Int)),some (.ref lc),some (.ref li),t11,t12,t13,t14,none,none,none,none,none,none,none,none,none,none,none,none,none,none,none]
section
variable {d:Nat} {H H0:AH} {A:Nat->Option AV} {Q:Fl->St->Prop} {E:KX} {s y z t n lim far lc li j:Nat} {ct:Nat->List UInt8} {rf:Nat->RI}
theorem run5 {c b:List UInt8} (I:RnI lc li H0 j ct rf H) (hj:j<=150) (l0:0 < c.length) (l2:c.length<=2) (lb:b.length<=150) (hQ:∀ ct rf H',RnI lc li H0 (j+1) ct rf H'->Q .next ⟨rlF A s y z t n lim far lc li (some (.int (j:Int))) (some (.bytes c)) (some (.int (chk c:Int))) (some (.bytes b)),H'⟩) :
  vSs T (callN T d) b_law_2_5 ⟨rlF A s y z t n lim far lc li (some (.int (j:Int))) (some (.bytes c)) (some (.int (chk c:Int))) (some (.bytes b)),H⟩ Q E:=by
 have lj:∀ {f:Nat->AV},((List.range j).map f).length < LIM:=fun {f}=>Nat.lt_of_le_of_lt (Nat.le_trans (Nat.le_of_eq len_refs) hj) (by decide)
 have oi:=getNe (o':=.list (((List.range j).map fun r=>AV.bytes (ct r))++[AV.bytes c])) I.ne.symm I.oi
 have z2:1 + j % 2<=250:=Nat.le_trans (Nat.add_le_add_left (Nat.le_of_lt (Nat.mod_lt j (by decide:0 < 2))) 1) (by decide)
 refine ⟨Lst.mk _ I.oc trivial,Lst.mk _ I.oc ⟨lj,Lst.mk _ oi trivial,by decide,by decide,rfl,Nat.le_trans z2 (by decide),Lst.mk _ oi ⟨lj,?_⟩⟩⟩
 have R:=I.R.next (c:=c) (x:=⟨(y + j) % 12,c.length,chk c,b,List.replicate (1 + j % 2) 122⟩) ⟨Nat.mod_lt _ (by decide),Nat.lt_of_le_of_lt l2 (by decide),chk_lt (Nat.le_trans l2 (by decide)),Nat.le_trans lb (by decide),Nat.le_trans (Nat.le_of_eq List.length_replicate) z2⟩ rfl rfl l0 l2
 refine hQ _ _ _ ⟨(I.u.fresh (.set (.head _)) I.hc).fresh (.set (.head _)) I.hi,?_,?_,R,I.hc,I.hi,I.ne⟩
 ·rw [<-push_up (f:=AV.bytes)]
  exact getNe I.ne (getSet I.oc)
 ·rw [<-push_up (f:=fun x:RI=>AV.tup x.vals)]
  exact getSet oi
theorem run2 {c:List UInt8} {t13 t14:Option AV} (I:RnI lc li H0 j ct rf H) (hj:j<=150) (l0:0 < c.length) (l2:c.length<=2) (hQ:∀ t13 t14 ct rf H',RnI lc li H0 (j+1) ct rf H'->Q .next ⟨rlF A s y z t n lim far lc li (some (.int (j:Int))) (some (.bytes c)) t13 t14,H'⟩) :
  vSs T (callN T d) b_law_2_2 ⟨rlF A s y z t n lim far lc li (some (.int (j:Int))) (some (.bytes c)) t13 t14,H⟩ Q E:=by
 have l200:c.length<=200:=Nat.le_trans l2 (by decide)
 have m3:j % 3<=3:=Nat.le_of_lt (Nat.mod_lt _ (by decide))
 have lt:j % 256 < 256:=Nat.mod_lt _ (by decide)
 have lb:(List.replicate (j % 3) (UInt8.ofNat (j % 256))).length<=3:=Nat.le_trans (Nat.le_of_eq List.length_replicate) m3
 have tail:vSs T (callN T d) b_law_2_3 ⟨rlF A s y z t n lim far lc li (some (.int (j:Int))) (some (.bytes c)) (some (.int (chk c:Int))) t14,H⟩ Q E:=by
  refine ⟨by decide,.inl (Lst.mk _ getLast' ⟨[UInt8.ofNat (j % 256)],one_oct lt,?_⟩)⟩
  refine ⟨by decide,rfl,Nat.le_trans m3 (by decide),?_⟩
  have I1:=I.upd0 (.app (G:=[.list [AV.int ((j % 256:Nat):Int)]]))
  rcases Decidable.em (j=far) with g|g
  ·refine ifT (Int.ofNat_inj.mpr g) ⟨rfl,by decide,Nat.le_trans (Nat.add_le_add_right lb 130) (by decide),?_⟩
   exact run5 (b:=List.replicate (j % 3) (UInt8.ofNat (j % 256))++List.replicate 130 107) I1 hj l0 l2 (by rw [List.length_append];exact Nat.le_trans (Nat.add_le_add lb (Nat.le_of_eq List.length_replicate)) (by decide)) (hQ _ _)
  ·exact ifF (fun q=>g (Int.ofNat_inj.mp q)) (run5 I1 hj l0 l2 (Nat.le_trans lb (by decide)) (hQ _ _))
 have q:∀ i:Int,i=((c.map (·.toNat)).sum:Nat)->vSs T (callN T d) b_law_2_3 ⟨rlF A s y z t n lim far lc li (some (.int (j:Int))) (some (.bytes c)) (some (.int (i * 251 + (c.length:Int) * 65537 + 7))) t14,H⟩ Q E:=fun i e=>e▸tail
 exact ⟨big_sum l200,by decide,big_len l200,by decide,q _ (sum_cast c)⟩
theorem run0 {t12 t13 t14:Option AV} (I:RnI lc li H0 j ct rf H) (hj:j<=150) (hQ:∀ t12 t13 t14 ct rf H',RnI lc li H0 (j+1) ct rf H'->Q .next ⟨rlF A s y z t n lim far lc li (some (.int (j:Int))) t12 t13 t14,H'⟩) :
  vSs T (callN T d) b_law_2_0 ⟨rlF A s y z t n lim far lc li (some (.int (j:Int))) t12 t13 t14,H⟩ Q E:=by
 have x1:(y + 37 * j) % 256 < 256:=Nat.mod_lt _ (by decide)
 have x2:(z+11 * j) % 256 < 256:=Nat.mod_lt _ (by decide)
 have bj:=bigN (n:=j) (Nat.lt_of_le_of_lt hj (by decide))
 have e:[AV.int (((y + 37 * j) % 256:Nat):Int),.int (((z+11 * j) % 256:Nat):Int)]=octInts [UInt8.ofNat ((y + 37 * j) % 256),UInt8.ofNat ((z+11 * j) % 256)]:=by
  have k:octInts [UInt8.ofNat ((y + 37 * j) % 256),UInt8.ofNat ((z+11 * j) % 256)]=[AV.int ((UInt8.ofNat ((y + 37 * j) % 256)).toNat:Int),.int ((UInt8.ofNat ((z+11 * j) % 256)).toNat:Int)]:=rfl
  rw [k,ofNat_toNat x1,ofNat_toNat x2]
 refine ⟨by decide,bj,by decide,by decide,bj,by decide,.inl (Lst.mk _ getLast' ⟨_,e,by decide,?_⟩)⟩
 have I1:=I.upd0 (.app (G:=[.list [AV.int (((y + 37 * j) % 256:Nat):Int),.int (((z+11 * j) % 256:Nat):Int)]]))
 rcases Decidable.em ((0:Int) < ((j:Int) + (y:Int)) % 3) with g|g
 ·exact ifT g ⟨by decide,run2 (c:=[UInt8.ofNat ((y + 37 * j) % 256)]) I1 hj (Nat.le_of_ble_eq_true rfl) (Nat.le_of_ble_eq_true rfl) (hQ _)⟩
 ·exact ifF g (run2 (c:=[UInt8.ofNat ((y + 37 * j) % 256),UInt8.ofNat ((z+11 * j) % 256)]) I1 hj (Nat.le_of_ble_eq_true rfl) (Nat.le_of_ble_eq_true rfl) (hQ _))
theorem run_loop {t11 t12 t13 t14:Option AV} (hn:n<=150) (I:RnI lc li H0 0 ct rf H) (hQ:∀ t11 t12 t13 t14 ct rf H',RnI lc li H0 n ct rf H'->vSs T (callN T d) b_law_0_12 ⟨rlF A s y z t n lim far lc li t11 t12 t13 t14,H'⟩ Q E) :
  vSs T (callN T d) b_law_0_11 ⟨rlF A s y z t n lim far lc li t11 t12 t13 t14,H⟩ Q E:=by
 refine ⟨Nat.le_trans hn (by decide),?_⟩
 refine forN (fun j (a:RnA)=>⟨rlF A s y z t n lim far lc li a.t11 a.t12 a.t13 a.t14,a.H⟩) (fun j a=>RnI lc li H0 j a.ct a.rf a.H) ⟨ct,rf,t11,t12,t13,t14,H⟩ I (fun j a hj J=>?_) fun a J=>hQ _ _ _ _ _ _ _ J
 exact run0 J (Nat.le_trans (Nat.le_of_lt hj) hn) fun t12 t13 t14 ct rf H' J'=>Fxt.mk ⟨ct,rf,_,t12,t13,t14,H'⟩ rfl J'
end
end Ab
end
section
namespace Ab
open PySem
theorem cut_map {α β:Type} (f:α->β) (xs:List α) (a b:Nat):cutL (xs.map f) a b=(cutL xs a b).map f:=by rw [cutL,cutL,List.map_drop,List.map_take]
theorem count_ex (s y:Nat):∃ n:Nat,(100<=n/\n<=141)/\[AV.int 128,.int 127,.int 129,.int ((100 + y % 41:Nat):Int)][s % 4]?=some (.int (n:Int)):=by
 have K:∀ r,r < 4->∃ n:Nat,(100<=n/\n<=141)/\[AV.int 128,.int 127,.int 129,.int ((100 + y % 41:Nat):Int)][r]?=some (.int (n:Int)):=fun
  | 0,_=>⟨128,by decide,rfl⟩
  | 1,_=>⟨127,by decide,rfl⟩
  | 2,_=>⟨129,by decide,rfl⟩
  | 3,_=>⟨100 + y % 41,⟨Nat.le_add_right _ _,Nat.add_le_add_left (Nat.le_of_lt (Nat.mod_lt y (by decide:0 < 41))) 100⟩,rfl⟩
 exact K _ (Nat.mod_lt _ (by decide))
theorem limit_ex (s:Nat):∃ n:Nat,(n<=3/\0 < n)/\[AV.int 2,.int 1,.int 3][s % 3]?=some (.int (n:Int)):=by
 have K:∀ r,r < 3->∃ n:Nat,(n<=3/\0 < n)/\[AV.int 2,.int 1,.int 3][r]?=some (.int (n:Int)):=fun
  | 0,_=>⟨2,by decide,rfl⟩
  | 1,_=>⟨1,by decide,rfl⟩
  | 2,_=>⟨3,by decide,rfl⟩
 exact K _ (Nat.mod_lt _ (by decide))
section
variable {d:Nat} {H:AH} {Q:AV->AH->Prop} {E:Nat->AH->Prop}
theorem top_9 {ln s y z t n lim far:Nat} {z0:AObj} {t0:Option AV} (g0:H[0]?=some z0) (n0:100<=n) (n1:n<=141) (t4:t<=4294967295) (b1:lim<=3) (b0:0 < lim) (hQ:∀ H',H'[0]?=some z0->Q (.bool true) H') :
  vSs T (callN T (d+14)) b_law_0_9 ⟨[t0,some (.ref ln),some (.int (s:Int)),some (.int (y:Int)),some (.int (z:Int)),some (.int (t:Int)),some (.int (n:Int)),some (.int (lim:Int)),some (.int (far:Int)),none,none,none,none,none,none,none,none,none,none,none,none,none,none,none,none,none,none,none,none,none],H⟩ (retK Q) fun c st=>st.on fun _ H=>E c H:=by
 have I:RnI H.length (H++[AObj.list []]).length H 0 (fun _=>[]) (fun _=>⟨0,0,0,[],[]⟩) (H++[AObj.list []]++[AObj.list []]) :=
  ⟨.trans .app .app,getApp (gLast _ _),gLast _ _,⟨fun _ h=>absurd h (Nat.not_lt_zero _),fun _ h=>absurd h (Nat.not_lt_zero _),fun _ h=>absurd h (Nat.not_lt_zero _),fun _ h=>absurd h (Nat.not_lt_zero _),fun _ h=>absurd h (Nat.not_lt_zero _)⟩,Nat.le_refl _,Nat.le_of_lt (ltApp' H),Nat.ne_of_lt (ltApp' H)⟩
 refine run_loop (A:=fun i=>if i=0 then t0 else some (.ref ln)) (Nat.le_trans n1 (by decide)) I fun t11 t12 t13 t14 ct rf H' J=>?_
 exact mid_r (A:=fun i=>if i=0 then t0 else if i=1 then some (.ref ln) else if i=8 then some (.int (far:Int)) else if i=11 then t11 else if i=12 then t12 else if i=13 then t13 else t14) J.R J.oc J.oi (J.u.get0 g0) n0 n1 t4 b1 b0 hQ
theorem top_2 {ln:Nat} {nums:List Nat} {z0:AObj} {t0:Option AV} (gn:H[ln]?=some (natL nums)) (g0:H[0]?=some z0) (m1:nums.length<=100) (m0:0 < nums.length) (ml:∀ n∈nums,n < 999983) (hQ:∀ H',H'[0]?=some z0->Q (.bool true) H') :
  vSs T (callN T (d+14)) b_law_0_2 ⟨[t0,some (.ref ln),none,none,none,none,none,none,none,none,none,none,none,none,none,none,none,none,none,none,none,none,none,none,none,none,none,none,none,none],H⟩ (retK Q) fun c st=>st.on fun _ H=>E c H:=by
 refine ⟨rfl,draw_spec (i:=0) gn m0 m1 ml (by decide) fun s hs=>?_⟩
 refine ⟨rfl,draw_spec (i:=1) gn m0 m1 ml (by decide) fun y hy=>?_⟩
 refine ⟨rfl,draw_spec (i:=2) gn m0 m1 ml (by decide) fun z hz=>?_⟩
 refine ⟨rfl,draw_spec (i:=3) gn m0 m1 ml (by decide) fun t ht=>?_⟩
 obtain ⟨n,hn,en⟩:=count_ex s y
 obtain ⟨lim,hl,el⟩:=limit_ex (s / 4)
 refine ⟨by decide,by decide,At.mk _ en ⟨by decide,by decide,At.mk _ el ⟨Int.ofNat_lt.mpr (Nat.lt_of_lt_of_le (by decide) hn.1),?_⟩⟩⟩
 exact top_9 (far:=z % n) g0 hn.1 hn.2 (Nat.le_trans (Nat.le_of_lt ht) (by decide)) hl.1 hl.2 hQ
theorem law_02 {its:List Value} {nums:List Int} (hQ:∀ H',H'[0]?=some (.frz its (nums.map .int))->Q (.bool true) H'):callN T (d+15) 0 i_law [.ref 0] [.frz its (nums.map .int)] Q E:=by
 refine enter fd_law rfl rfl (.inr (Frz.mk its _ rfl ⟨by decide,?_⟩))
 have eb:([AObj.frz its (nums.map .int)]++[AObj.list (cutL (nums.map AV.int) 0 8)])[1]?=some (.list ((cutL nums 0 8).map .int)):=by rw [cut_map];rfl
 have hl:(cutL nums 0 8).length<=8:=List.length_take_le _ _
 generalize cutL nums 0 8=ps at eb hl
 refine Lst.mk _ eb (forL (fun j (a:Option AV×AH)=>⟨[a.1],a.2⟩) (fun j a=>RowsI ([AObj.frz its (nums.map .int)]++[AObj.list (cutL (nums.map AV.int) 0 8)]) (((ps.take j).map fun i=>(i % 999983).toNat).map fun n:Nat=>AV.int (n:Int)) a) (none,_++[AObj.list []]) ⟨.app,getLast'⟩ (fun n a J=>J.u.get0 eb) (fun j i a e J=>?_) fun a J=>?_)
 ·have e2:(i % 999983)=((i % 999983).toNat:Int):=(Int.toNat_of_nonneg (Int.emod_nonneg _ (by decide))).symm
  refine ⟨by decide,?_⟩
  rw [e2]
  exact Lst.mk _ J.o ⟨Nat.lt_of_le_of_lt (Nat.le_trans (Nat.le_of_eq (by rw [List.length_map,List.length_map])) (Nat.le_trans (List.length_take_le' _ _) hl)) (by decide),Fxt.mk (_,_) rfl (J.push .refl (by rw [List.take_add_one,e,List.map_append,List.map_append];rfl))⟩
 ·have o:=J.o
  rw [List.take_length] at o
  have ml:∀ n∈(ps.map fun i=>(i % 999983).toNat),n < 999983:=fun n hn=>by
   obtain ⟨i,_,rfl⟩:=List.mem_map.mp hn
   exact (Int.toNat_lt (Int.emod_nonneg _ (by decide))).mpr (Int.emod_lt_of_pos _ (by decide))
  have m1:(ps.map fun i=>(i % 999983).toNat).length<=100:=Nat.le_trans (Nat.le_of_eq (List.length_map _)) (Nat.le_trans hl (by decide))
  generalize (ps.map fun i=>(i % 999983).toNat)=ns at o ml m1
  refine Lst.mk _ o ?_
  rw [List.length_map]
  have g0:a.2[0]?=some (.frz its (nums.map .int)):=J.u.get0 rfl
  cases ns with
  | nil=>exact top_2 (nums:=[0]) (gLast _ _) (getApp g0) (by decide) (by decide) (by decide) hQ
  | cons n ns=>exact top_2 o g0 m1 (Nat.succ_pos _) ml hQ
end
theorem pure_02 (its:List Value) (nums:List Int) (_:nums.length<=63):callN T 41 0 i_law [AV.ref 0] [AObj.frz its (nums.map AV.int)] (fun v H=>v=AV.bool true/\H[0]?=some (AObj.frz its (nums.map AV.int))) fun _ _=>False :=
 law_02 (d:=26) fun _ h=>⟨rfl,h⟩
end Ab
end

theorem PySem.Challenge.cw_xm0850_02_holds : PySem.Challenge.rw_xm0850_02.Holds := by
  exact Ab.fin Ab.pure_02
