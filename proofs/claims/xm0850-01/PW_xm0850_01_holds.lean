import PyProof.Rows.All
import PySem.Value
import PySem.Eval
import KE.KPar
import Wide.FinOn
import OpenK.AllK
import Wide.All
import Lean
import PySem.Challenge.RW_xm0850_01
set_option Elab.async false
set_option autoImplicit false
set_option maxRecDepth 100000
set_option linter.all false
set_option genSizeOf false
set_option genInjectivity false
section
set_option genSizeOf false
set_option genInjectivity false
namespace Ab
open PySem
inductive AV where
 | none
 | bool (b:Bool)
 | int (i:Int)
 | bytes (b:List UInt8)
 | tup (vs:List AV)
 | ref (l:Nat)
 | rng (n:Nat)
inductive AObj where
 | list (vs:List AV)
 | barr (b:List UInt8)
 | inst (c:Nat) (fs:List (Nat×AV))
 | frz (its:List Value) (vs:List AV)
noncomputable abbrev AH:=List AObj
structure St where
 fr:List (Option AV)
 H:AH
noncomputable def St.on (st:St) (k:List (Option AV)->AH->Prop):Prop:=St.casesOn st k
inductive Prim where
 | len|bytes|bytearray|tuple|sum|min|max|range|sorted
inductive LM where
 | append|index|pop|reverse|bappend|bextend|join
inductive AT0 where
 | loc (i p:Nat)
 | cel (i p:Nat)
 | tup (is:List (Nat×Nat)) (p:Nat)
mutual
inductive AE where
 | cst (v:AV) (p:Nat)
 | neg (n p q:Nat)
 | loc (i p:Nat)
 | cel (i p:Nat)
 | glb (x p:Nat)
 | bin (op:Operator) (l r:AE) (p:Nat)
 | cmp (op:CmpOp) (l r:AE) (p:Nat)
 | not (e:AE) (p:Nat)
 | bop (isAnd:Bool) (es:AEs) (p:Nat)
 | call (f:Nat) (es:AEs) (pn p:Nat)
 | new (c:Nat) (es:AEs) (pn p:Nat)
 | prim (k:Prim) (es:AEs) (pn p:Nat)
 | isb (e:AE) (pn pt p:Nat)
 | meth (o:AE) (m:Nat) (es:AEs) (pa p:Nat)
 | lmeth (o:AE) (m:LM) (es:AEs) (pa p:Nat)
 | attr (o:AE) (a p:Nat)
 | sub (o i:AE) (p:Nat)
 | slc (o lo hi:AE) (ps p:Nat)
 | abs
 | lst (es:AEs) (p:Nat)
 | tup (es:AEs) (p:Nat)
 | comp (names:List String) (sc:List (String×NameKind)) (caps:List (Nat×Nat)) (tgt:AT0) (elt it cond:AE) (p:Nat)
inductive AEs where
 | nil
 | cons (e:AE) (es:AEs)
end
inductive AFs where
 | nil
 | txt (s:String) (p:Nat) (r:AFs)
 | fmt (e:AE) (p:Nat) (r:AFs)
inductive AT where
 | t0 (t:AT0)
 | attr (o:AE) (a p:Nat)
 | sub (o i:AE) (p:Nat)
structure HRow where
 c:Nat
 i:Nat
 pn:Nat
 pi:Nat
 pl:Nat
 pt:Nat
 pr:Nat
 p:Nat
mutual
inductive AS where
 | expr (e:AE) (p:Nat)
 | ret (e:AE) (p:Nat)
 | ret0 (p:Nat)
 | asg (t:AT) (e:AE) (p:Nat)
 | aug (i:Nat) (op:Operator) (e:AE) (pn p:Nat)
 | augAttr (i a:Nat) (op:Operator) (e:AE) (pn pa p:Nat)
 | ite (c:AE) (b o:ASs) (p:Nat)
 | whl (c:AE) (b:ASs) (p:Nat)
 | for (t:AT0) (it:AE) (b:ASs) (p:Nat)
 | raise (c:Nat) (s:Option String) (fs:AFs) (ps pn pc p:Nat)
 | try (b:ASs) (hs:List HRow) (p:Nat)
inductive ASs where
 | nil
 | cons (s:AS) (ss:ASs)
end
inductive Fl where
 | next
 | ret (v:AV)
structure FD where
 line:Nat
 names:List String
 np:Nat
 dflts:List AV
 body:ASs
noncomputable abbrev LIM:Nat:=1048576
noncomputable abbrev BIG:Int:=18446744073709551616
noncomputable abbrev KV:=AV->St->Prop
noncomputable abbrev KX:=Nat->St->Prop
noncomputable abbrev Call:=Nat->Nat->List AV->AH->(AV->AH->Prop)->(Nat->AH->Prop)->Prop
noncomputable def AV.isBool (a:AV) (k:Bool->Prop):Prop:=AV.casesOn a False k (fun _=>False) (fun _=>False) (fun _=>False) (fun _=>False) (fun _=>False)
noncomputable def AV.isInt (a:AV) (k:Int->Prop):Prop:=AV.casesOn a False (fun _=>False) k (fun _=>False) (fun _=>False) (fun _=>False) (fun _=>False)
noncomputable def AV.isBytes (a:AV) (k:List UInt8->Prop):Prop:=AV.casesOn a False (fun _=>False) (fun _=>False) k (fun _=>False) (fun _=>False) (fun _=>False)
noncomputable def AV.isTup (a:AV) (k:List AV->Prop):Prop:=AV.casesOn a False (fun _=>False) (fun _=>False) (fun _=>False) k (fun _=>False) (fun _=>False)
noncomputable def AV.isRef (a:AV) (k:Nat->Prop):Prop:=AV.casesOn a False (fun _=>False) (fun _=>False) (fun _=>False) (fun _=>False) k (fun _=>False)
noncomputable def Nt (a:AV) (k:Nat->Prop):Prop:=AV.casesOn a False (fun _=>False) (fun i=>Int.casesOn i k fun _=>False) (fun _=>False) (fun _=>False) (fun _=>False) (fun _=>False)
theorem Nt.mk {a:AV} {k:Nat->Prop} (n:Nat) (e:a=.int (n:Int)) (h:k n):Nt a k:=by
 subst e
 exact h
theorem Nt.elim {a:AV} {k:Nat->Prop} (h:Nt a k):∃ n:Nat,a=.int (n:Int)/\k n:=by
 cases a with
 | int i =>
  cases i with
  | ofNat n=>exact ⟨n,rfl,h⟩
  | negSucc n=>exact False.elim h
 | _=>exact False.elim h
inductive Lst (H:AH) (l:Nat) (k:List AV->Prop):Prop
 | mk (xs:List AV) (e:H[l]?=some (.list xs)) (h:k xs)
inductive Bar (H:AH) (l:Nat) (k:List UInt8->Prop):Prop
 | mk (xs:List UInt8) (e:H[l]?=some (.barr xs)) (h:k xs)
inductive Ins (H:AH) (l:Nat) (k:Nat->List (Nat×AV)->Prop):Prop
 | mk (c:Nat) (fs:List (Nat×AV)) (e:H[l]?=some (.inst c fs)) (h:k c fs)
inductive Frz (H:AH) (l:Nat) (k:List AV->Prop):Prop
 | mk (its:List Value) (xs:List AV) (e:H[l]?=some (.frz its xs)) (h:k xs)
inductive At {α:Type} (xs:List α) (n:Nat) (k:α->Prop):Prop
 | mk (x:α) (e:xs[n]?=some x) (h:k x)
noncomputable def optP {α:Type} (o:Option α) (k:α->Prop):Prop:=Option.casesOn o False k
noncomputable def oneP (vs:List AV) (k:AV->Prop):Prop:=List.casesOn vs False fun a r=>List.casesOn r (k a) fun _ _=>False
noncomputable def twoP (vs:List AV) (k:AV->AV->Prop):Prop:=List.casesOn vs False fun a r=>List.casesOn r False fun b r=>List.casesOn r (k a b) fun _ _=>False
noncomputable def ifb (b:Bool) (p q:Prop):Prop:=Bool.casesOn b q p
noncomputable def addP (a b:AV) (st:St) (Q:KV):Prop:=st.on fun fr H=>AV.casesOn a False (fun _=>False) (fun i=>b.isInt fun j=>Q (.int (i + j)) ⟨fr,H⟩)
 (fun x=>b.isBytes fun y=>x.length + y.length<=LIM/\Q (.bytes (x++y)) ⟨fr,H⟩) (fun _=>False)
 (fun l=>b.isRef fun m=>Lst H l fun xs=>Lst H m fun ys=>xs.length + ys.length<=LIM/\Q (.ref H.length) ⟨fr,H++[.list (xs++ys)]⟩) (fun _=>False)
noncomputable def mulP (a b:AV) (st:St) (Q:KV):Prop:=st.on fun fr H=>AV.casesOn a False (fun _=>False) (fun i=>b.isInt fun j=>(-BIG < i/\i < BIG)/\(-BIG < j/\j < BIG)/\Q (.int (i * j)) ⟨fr,H⟩) (fun _=>False) (fun _=>False)
 (fun l=>Nt b fun n=>Lst H l fun xs=>oneP xs fun x=>n<=LIM/\Q (.ref H.length) ⟨fr,H++[.list (List.replicate n x)]⟩) (fun _=>False)
noncomputable def shrP (a b:AV) (k:AV->Prop):Prop:=Nt a fun n=>Nt b fun m=>k (.int ((n / 2 ^ m:Nat):Int))
noncomputable def orP (a b:AV) (k:AV->Prop):Prop:=Nt a fun n=>Nt b fun m=>k (.int ((n ||| m:Nat):Int))
noncomputable def binP (op:Operator) (a b:AV) (st:St) (Q:KV):Prop:=match op with
 | .Add=>addP a b st Q
 | .Sub=>a.isInt fun i=>b.isInt fun j=>Q (.int (i - j)) st
 | .Mult=>mulP a b st Q
 | .FloorDiv=>a.isInt fun i=>b.isInt fun j=>(0 < j/\j < BIG)/\Q (.int (i / j)) st
 | .Mod=>a.isInt fun i=>b.isInt fun j=>0 < j/\Q (.int (i % j)) st
 | .Pow=>a.isInt fun i=>Nt b fun n=>(1 < i/\i < BIG/\n<=64)/\Q (.int (i ^ n)) st
 | .BitAnd=>Nt a fun n=>Nt b fun m=>Q (.int ((n &&& m:Nat):Int)) st
 | .BitOr=>orP a b fun v=>Q v st
 | .LShift=>Nt a fun n=>Nt b fun m=>n < 18446744073709551616/\m<=128/\Q (.int ((n * 2 ^ m:Nat):Int)) st
 | .RShift=>shrP a b fun v=>Q v st
 | _=>False
noncomputable def augP (op:Operator) (a b:AV) (k:AV->Prop):Prop:=match op with
 | .Add=>a.isInt fun i=>b.isInt fun j=>k (.int (i + j))
 | .RShift=>shrP a b k
 | .BitOr=>orP a b k
 | _=>False
noncomputable def Same (H:AH):Nat->AV->AV->Prop
 | 0,_,_=>False
 | n+1,a,b=>AV.casesOn a (b=.none) (fun _=>a=b) (fun _=>a=b) (fun _=>a=b)
  (fun as=>b.isTup fun bs=>as.length=bs.length/\∀ (i:Nat) (x y:AV),as[i]?=some x->bs[i]?=some y->Same H n x y)
  (fun l=>b.isRef fun m=>Lst H l fun as=>Lst H m fun bs=>as.length=bs.length/\∀ (i:Nat) (x y:AV),as[i]?=some x->bs[i]?=some y->Same H n x y)
  (fun _=>False)
inductive Eqv (H:AH) (a b:AV) (k:Bool->Prop):Prop
 | same (e:Same H 7 a b) (h:k true)
 | tupNone (as:List AV) (e:a=.tup as) (f:b=.none) (h:k false)
 | pairs (i j x y:Int) (e:a=.tup [.int i,.int j]) (f:b=.tup [.int x,.int y]) (h:k (decide (i=x)&&decide (j=y)))
noncomputable def eqP (H:AH) (a b:AV) (k:Bool->Prop):Prop:=AV.casesOn a (Eqv H a b k) (fun x=>b.isBool fun y=>k (decide (x=y))) (fun x=>b.isInt fun y=>k (decide (x=y))) (fun x=>b.isBytes fun y=>k (decide (x=y)))
 (fun _=>Eqv H a b k) (fun _=>Eqv H a b k) (fun _=>False)
noncomputable def isNone (a:AV) (k:Bool->Prop):Prop:=AV.casesOn a (k true) (fun _=>k false) (fun _=>k false) (fun _=>k false) (fun _=>k false) (fun _=>k false) (fun _=>k false)
noncomputable def cmpP (op:CmpOp) (a b:AV) (H:AH) (k:Bool->Prop):Prop:=match op with
 | .Lt=>a.isInt fun i=>b.isInt fun j=>k (decide (i < j))
 | .LtE=>a.isInt fun i=>b.isInt fun j=>k (decide (i<=j))
 | .Gt=>a.isInt fun i=>b.isInt fun j=>k (decide (j < i))
 | .GtE=>a.isInt fun i=>b.isInt fun j=>k (decide (j<=i))
 | .Eq=>eqP H a b k
 | .NotEq=>eqP H a b fun r=>k (!r)
 | .Is=>b=.none/\isNone a k
 | .IsNot=>b=.none/\isNone a fun r=>k (!r)
 | .In=>a.isInt fun i=>b.isRef fun l=>Lst H l fun xs=>∃ is:List Int,xs=is.map .int/\k (is.any (i==·))
 | _=>False
noncomputable def insertI (x:Int):List Int->List Int
 | []=>[x]
 | y::r=>if x<=y then x::y::r else y::insertI x r
noncomputable def sortI:List Int->List Int
 | []=>[]
 | x::r=>insertI x (sortI r)
noncomputable def octInts (b:List UInt8):List AV:=b.map fun x=>.int (x.toNat:Int)
noncomputable def rngItems (n:Nat):List AV:=(List.range n).map fun (i:Nat)=>AV.int (i:Int)
noncomputable def cutL {α:Type} (xs:List α) (lo hi:Nat):List α:=(xs.take hi).drop lo
noncomputable def primP (p:Prim) (vs:List AV) (st:St) (Q:KV):Prop:=st.on fun fr H=>match p with
 | .len=>oneP vs fun a=>AV.casesOn a False (fun _=>False) (fun _=>False) (fun b=>Q (.int (b.length:Int)) ⟨fr,H⟩) (fun xs=>Q (.int (xs.length:Int)) ⟨fr,H⟩) (fun l=>Lst H l fun xs=>Q (.int (xs.length:Int)) ⟨fr,H⟩) (fun _=>False)
 | .bytes=>oneP vs fun a=>AV.casesOn a False (fun _=>False) (fun _=>False) (fun b=>Q (.bytes b) ⟨fr,H⟩) (fun _=>False) (fun l=>(Lst H l fun xs=>∃ b,xs=octInts b/\Q (.bytes b) ⟨fr,H⟩)\/Bar H l fun b=>Q (.bytes b) ⟨fr,H⟩) (fun _=>False)
 | .bytearray=>vs=[]/\Q (.ref H.length) ⟨fr,H++[.barr []]⟩
 | .tuple=>oneP vs fun a=>a.isRef fun l=>Lst H l fun xs=>Q (.tup xs) ⟨fr,H⟩
 | .sum=>oneP vs fun a=>AV.casesOn a False (fun _=>False) (fun _=>False) (fun b=>Q (.int (b.map fun x=>(x.toNat:Int)).sum) ⟨fr,H⟩) (fun _=>False) (fun l=>Lst H l fun xs=>∃ is:List Int,xs=is.map .int/\Q (.int is.sum) ⟨fr,H⟩) (fun _=>False)
 | .min=>twoP vs fun a b=>a.isInt fun i=>b.isInt fun j=>Q (.int (min i j)) ⟨fr,H⟩
 | .max=>twoP vs fun a b=>a.isInt fun i=>b.isInt fun j=>Q (.int (max i j)) ⟨fr,H⟩
 | .range=>oneP vs fun a=>Nt a fun n=>n<=LIM/\Q (.rng n) ⟨fr,H⟩
 | .sorted=>oneP vs fun a=>a.isBytes fun b=>b.length < 64/\Q (.ref H.length) ⟨fr,H++[.list ((sortI (b.map fun x=>(x.toNat:Int))).map .int)]⟩
noncomputable def lmK (m:LM) (a:AV) (H:AH):Prop:=match m with
 | .append|.index|.pop|.reverse=>a.isRef fun l=>Lst H l fun _=>True
 | .bappend|.bextend=>a.isRef fun l=>Bar H l fun _=>True
 | .join=>a=.bytes []
noncomputable def lmP (m:LM) (a:AV) (vs:List AV) (st:St) (Q:KV):Prop:=st.on fun fr H=>match m with
 | .append=>a.isRef fun l=>oneP vs fun v=>Lst H l fun xs=>xs.length < LIM/\Q .none ⟨fr,H.set l (.list (xs++[v]))⟩
 | .index=>a.isRef fun l=>oneP vs fun v=>v.isInt fun i=>Lst H l fun xs=>∃ (is:List Int) (k:Nat),xs=is.map .int/\is[k]?=some i/\(∀ j,j < k->is[j]?≠some i)/\Q (.int (k:Int)) ⟨fr,H⟩
 | .pop=>a.isRef fun l=>vs=[]/\Lst H l fun xs=>∃ ys v,xs=ys++[v]/\Q v ⟨fr,H.set l (.list ys)⟩
 | .reverse=>a.isRef fun l=>vs=[]/\Lst H l fun xs=>Q .none ⟨fr,H.set l (.list xs.reverse)⟩
 | .bappend=>a.isRef fun l=>oneP vs fun v=>Nt v fun n=>Bar H l fun b=>(n < 256/\b.length < LIM)/\Q .none ⟨fr,H.set l (.barr (b++[UInt8.ofNat n]))⟩
 | .bextend=>a.isRef fun l=>oneP vs fun v=>v.isBytes fun c=>Bar H l fun b=>b.length + c.length<=LIM/\Q .none ⟨fr,H.set l (.barr (b++c))⟩
 | .join=>a=.bytes []/\oneP vs fun v=>v.isRef fun l=>Lst H l fun xs=>∃ bs:List (List UInt8),xs=bs.map .bytes/\bs.flatten.length<=LIM/\Q (.bytes bs.flatten) ⟨fr,H⟩
noncomputable def subP (o i:AV) (H:AH) (k:AV->Prop):Prop:=Nt i fun n=>AV.casesOn o False (fun _=>False) (fun _=>False) (fun b=>At b n fun x=>k (.int (x.toNat:Int))) (fun vs=>At vs n k) (fun l=>Lst H l fun xs=>At xs n k) (fun _=>False)
noncomputable def bndP (a:AV) (d:Nat) (k:Nat->Prop):Prop:=AV.casesOn a (k d) (fun _=>False) (fun _=>Nt a fun n=>n < 1152921504606846976/\k n) (fun _=>False) (fun _=>False) (fun _=>False) (fun _=>False)
noncomputable def slcP (o lo hi:AV) (st:St) (Q:KV):Prop:=st.on fun fr H=>AV.casesOn o False (fun _=>False) (fun _=>False)
 (fun b=>bndP lo 0 fun x=>bndP hi b.length fun y=>Q (.bytes (cutL b x y)) ⟨fr,H⟩) (fun _=>False)
 (fun l=>(Lst H l fun xs=>bndP lo 0 fun x=>bndP hi xs.length fun y=>Q (.ref H.length) ⟨fr,H++[.list (cutL xs x y)]⟩) ∨
  Frz H l fun xs=>bndP lo 0 fun x=>bndP hi xs.length fun y=>Q (.ref H.length) ⟨fr,H++[.list (cutL xs x y)]⟩) (fun _=>False)
noncomputable def getFr:Nat->List (Option AV)->(AV->Prop)->Prop
 | 0,fr,k=>List.casesOn fr False fun o _=>optP o k
 | i+1,fr,k=>List.casesOn fr False fun _ r=>getFr i r k
noncomputable def setFr (v:AV):Nat->List (Option AV)->(List (Option AV)->Prop)->Prop
 | 0,fr,k=>List.casesOn fr False fun _ r=>k (some v::r)
 | i+1,fr,k=>List.casesOn fr False fun o r=>setFr v i r fun r=>k (o::r)
noncomputable def setFrs:List Nat->List AV->List (Option AV)->(List (Option AV)->Prop)->Prop
 | [],vs,fr,k=>vs=[]/\k fr
 | i::is,vs,fr,k=>List.casesOn vs False fun v vs=>setFr v i fr fun fr=>setFrs is vs fr k
noncomputable def setT (t:AT0) (v:AV) (fr:List (Option AV)) (k:List (Option AV)->Prop):Prop:=match t with
 | .loc i _=>setFr v i fr k
 | .cel i _=>setFr v i fr k
 | .tup is _=>v.isTup fun vs=>setFrs (is.map (·.1)) vs fr k
noncomputable def fget (a:Nat):List (Nat×AV)->Option AV
 | []=>none
 | p::r=>if p.1=a then some p.2 else fget a r
noncomputable def fset (a:Nat) (v:AV):List (Nat×AV)->List (Nat×AV)
 | []=>[(a,v)]
 | p::r=>if p.1=a then (p.1,v)::r else p::fset a v r
noncomputable def capture (caps:List (Nat×Nat)) (outer:List (Option AV)) (n:Nat):List (Option AV) :=
 caps.foldl (fun fr c=>fr.set c.1 (outer[c.2]?.join)) (List.replicate n none)
noncomputable def iterP (v:AV) (H:AH) (k:List AV->Option Nat->Prop):Prop:=AV.casesOn v False (fun _=>False) (fun _=>False) (fun b=>k (octInts b) none) (fun vs=>k vs none) (fun l=>Lst H l fun xs=>k xs (some l)) (fun n=>k (rngItems n) none)
noncomputable def stands (w:Option Nat) (all:List AV) (H:AH):Prop:=Option.casesOn w True fun l=>H[l]?=some (.list all)
noncomputable def fmtP (v:AV) (H:AH):Prop:=AV.casesOn v False (fun _=>False) (fun i=>-(2 ^ 512:Int) < i/\i < 2 ^ 512) (fun _=>False) (fun _=>False)
 (fun l=>Lst H l fun xs=>∃ is:List Int,xs=is.map .int/\is.length<=1000/\∀ i∈is,-(2 ^ 30:Int) < i/\i < 2 ^ 30) (fun _=>False)
noncomputable def callK (C:Call) (c f:Nat) (vs:List AV) (st:St) (Q:KV) (E:KX):Prop:=st.on fun fr H=>C c f vs H (fun v H=>Q v ⟨fr,H⟩) (fun e H=>E e ⟨fr,H⟩)
noncomputable def onNext (k:St->Prop) (Q:Fl->St->Prop) (f:Fl) (st:St):Prop:=Fl.casesOn f (k st) fun v=>Q (.ret v) st
noncomputable def isAbs (e:AE):Bool:=match e with
 | .abs=>true
 | _=>false
noncomputable def compK (e:AE) (c:AV) (p q:Prop):Prop:=Bool.casesOn (isAbs e) (c.isBool fun b=>ifb b p q) p
structure Tab where
 glb:Nat->Option Int
 fn:Nat->Nat->Option FD
 cls:Nat->Bool
 field:Nat->Nat->Bool
 isExc:Nat->Bool
 sub:Nat->Nat->Bool
inductive ForI (all:List AV) (w:Option Nat) (body:AV->St->(St->Prop)->Prop) (st:St) (k:St->Prop):Prop
 | mk (I:Nat->St->Prop) (h0:I 0 st) (step:∀ n v st,all[n]?=some v->I n st->stands w all st.H/\body v st (I (n+1))) (fin:∀ st,I all.length st->stands w all st.H/\k st)
inductive WhlI (body:St->(St->Prop)->Prop) (st:St):Prop
 | mk (I:Nat->St->Prop) (n:Nat) (h0:I n st) (step:∀ n st,I n st->body st fun st=>∃ m,m < n/\I m st)
section
variable (T:Tab) (C:Call)
mutual
noncomputable def vE:AE->St->KV->KX->Prop
 | .cst v _,st,Q,_=>Q v st
 | .neg n _ _,st,Q,_=>Q (.int (-(n:Int))) st
 | .loc i _,st,Q,_=>getFr i st.fr fun v=>Q v st
 | .cel i _,st,Q,_=>getFr i st.fr fun v=>Q v st
 | .glb x _,st,Q,_=>optP (T.glb x) fun i=>Q (.int i) st
 | .bin op l r _,st,Q,E=>vE l st (fun a st=>vE r st (fun b st=>binP op a b st Q) E) E
 | .cmp op l r _,st,Q,E=>vE l st (fun a st=>vE r st (fun b st=>st.on fun fr H=>cmpP op a b H fun r=>Q (.bool r) ⟨fr,H⟩) E) E
 | .not e _,st,Q,E=>vE e st (fun a st=>a.isBool fun b=>Q (.bool (!b)) st) E
 | .bop k es _,st,Q,E=>vB k es st Q E
 | .call f es _ _,st,Q,E=>(T.fn 0 f).isSome=true/\vEs es st (fun vs st=>callK C 0 f vs st Q E) E
 | .new c es _ _,st,Q,E=>T.cls c=true/\vEs es st (fun vs st=>st.on fun fr H0=>C c 1 (.ref H0.length::vs) (H0++[.inst c []]) (fun v H=>v=.none/\Q (.ref H0.length) ⟨fr,H⟩) (fun e H=>E e ⟨fr,H⟩)) E
 | .prim p es _ _,st,Q,E=>vEs es st (fun vs st=>primP p vs st Q) E
 | .isb e _ _ _,st,Q,E=>vE e st (fun a st=>a.isBytes fun _=>Q (.bool true) st) E
 | .meth o m es _ _,st,Q,E=>vE o st (fun a st=>a.isRef fun l=>st.on fun fr H=>Ins H l fun c fs=>(T.fn c m).isSome=true/\c≠0/\fget m fs=none/\vEs es ⟨fr,H⟩ (fun vs st=>callK C c m (.ref l::vs) st Q E) E) E
 | .lmeth o m es _ _,st,Q,E=>vE o st (fun a st=>st.on fun fr H=>lmK m a H/\vEs es ⟨fr,H⟩ (fun vs st=>lmP m a vs st Q) E) E
 | .attr o a _,st,Q,E=>vE o st (fun v st=>v.isRef fun l=>st.on fun fr H=>Ins H l fun c fs=>T.field c a=true/\optP (fget a fs) fun r=>Q r ⟨fr,H⟩) E
 | .sub o i _,st,Q,E=>vE o st (fun a st=>vE i st (fun b st=>st.on fun fr H=>subP a b H fun r=>Q r ⟨fr,H⟩) E) E
 | .slc o lo hi _ _,st,Q,E=>vE o st (fun a st=>vE lo st (fun x st=>vE hi st (fun y st=>slcP a x y st Q) E) E) E
 | .abs,st,Q,_=>Q .none st
 | .lst es _,st,Q,E=>vEs es st (fun vs st=>st.on fun fr H=>Q (.ref H.length) ⟨fr,H++[.list vs]⟩) E
 | .tup es _,st,Q,E=>vEs es st (fun vs st=>Q (.tup vs) st) E
 | .comp ns _ caps tgt elt it cond _,st,Q,E=>vE it st (fun x st=>st.on fun fr H=>iterP x H fun all w =>
   ForI all w (fun v st1 k=>st1.on fun fr1 H1=>setT tgt v fr1 fun fr2=>vE cond ⟨fr2,H1⟩ (fun c st2=>compK cond c (vE elt st2 (fun y st3=>st3.on fun fr3 H3=>Lst H3 H.length fun xs=>xs.length < LIM/\k ⟨fr3,H3.set H.length (.list (xs++[y]))⟩) fun _ _=>False) (k st2)) fun _ _=>False)
    ⟨capture caps fr ns.length,H++[.list []]⟩ fun st1=>st1.on fun _ H1=>Q (.ref H.length) ⟨fr,H1⟩) E
termination_by structural e=>e
noncomputable def vEs:AEs->St->(List AV->St->Prop)->KX->Prop
 | .nil,st,Q,_=>Q [] st
 | .cons e es,st,Q,E=>vE e st (fun v st=>vEs es st (fun vs st=>Q (v::vs) st) E) E
termination_by structural es=>es
noncomputable def vB:Bool->AEs->St->KV->KX->Prop
 | _,.nil,_,_,_=>False
 | k,.cons e es,st,Q,E=>AEs.casesOn es (vE e st Q E) fun _ _=>vE e st (fun v st=>v.isBool fun b=>Bool.casesOn k (ifb b (Q v st) (vB k es st Q E)) (ifb b (vB k es st Q E) (Q v st))) E
termination_by structural _ es=>es
end
noncomputable def vF:AFs->St->(St->Prop)->KX->Prop
 | .nil,st,k,_=>k st
 | .txt _ _ r,st,k,E=>vF r st k E
 | .fmt e _ r,st,k,E=>vE T C e st (fun v st=>st.on fun fr H=>fmtP v H/\vF r ⟨fr,H⟩ k E) E
termination_by structural r=>r
noncomputable def handle (c:Nat) (st:St) (Q:Fl->St->Prop) (E:KX):List HRow->Prop
 | []=>E c st
 | h::r=>T.isExc c=true/\T.isExc h.c=true/\ifb (T.sub c h.c) (st.on fun fr H=>Q (.ret (.tup [.int (h.i:Int),.ref H.length])) ⟨fr,H++[.list []]⟩) (handle c st Q E r)
noncomputable def setA (x:AV) (a:Nat) (v:AV) (st:St) (k:St->Prop):Prop:=x.isRef fun l=>st.on fun fr H=>Ins H l fun c fs=>T.field c a=true/\fs.length < 64/\k ⟨fr,H.set l (.inst c (fset a v fs))⟩
noncomputable def setS (x j v:AV) (st:St) (k:St->Prop):Prop:=x.isRef fun l=>Nt j fun n=>st.on fun fr H=>Lst H l fun xs=>n < xs.length/\k ⟨fr,H.set l (.list (xs.set n v))⟩
noncomputable def vT (t:AT) (v:AV) (st:St) (k:St->Prop) (E:KX):Prop:=match t with
 | .t0 t=>st.on fun fr H=>setT t v fr fun fr=>k ⟨fr,H⟩
 | .attr o a _=>vE T C o st (fun x st=>setA T x a v st k) E
 | .sub o i _=>vE T C o st (fun x st=>vE T C i st (fun j st=>setS x j v st k) E) E
mutual
noncomputable def vS:AS->St->(Fl->St->Prop)->KX->Prop
 | .expr e _,st,Q,E=>vE T C e st (fun _ st=>Q .next st) E
 | .ret e _,st,Q,E=>vE T C e st (fun v st=>Q (.ret v) st) E
 | .ret0 _,st,Q,_=>Q (.ret .none) st
 | .asg t e _,st,Q,E=>vE T C e st (fun v st=>vT T C t v st (fun st=>Q .next st) E) E
 | .aug i op e _ _,st,Q,E=>getFr i st.fr fun a=>vE T C e st (fun b st=>augP op a b fun v=>st.on fun fr H=>setFr v i fr fun fr=>Q .next ⟨fr,H⟩) E
 | .augAttr i a op e _ _ _,st,Q,E=>getFr i st.fr fun x=>x.isRef fun l=>st.on fun fr H=>Ins H l fun c fs=>T.field c a=true/\optP (fget a fs) fun old=>vE T C e ⟨fr,H⟩ (fun b st=>augP op old b fun v=>setA T x a v st fun st=>Q .next st) E
 | .ite c b o _,st,Q,E=>vE T C c st (fun v st=>v.isBool fun t=>ifb t (vSs b st Q E) (vSs o st Q E)) E
 | .whl c b _,st,Q,E=>WhlI (fun st k=>vE T C c st (fun v st=>v.isBool fun t=>ifb t (vSs b st (onNext k Q) E) (Q .next st)) E) st
 | .for t it b _,st,Q,E=>vE T C it st (fun x st=>st.on fun fr H=>iterP x H fun all w=>ForI all w (fun v st k=>st.on fun fr H=>setT t v fr fun fr=>vSs b ⟨fr,H⟩ (onNext k Q) E) ⟨fr,H⟩ fun st=>Q .next st) E
 | .raise c _ fs _ _ _ _,st,_,E=>T.isExc c=true/\vF T C fs st (fun st=>E c st) E
 | .try b hs _,st,Q,E=>vSs b st Q fun c st=>handle T c st Q E hs
termination_by structural s=>s
noncomputable def vSs:ASs->St->(Fl->St->Prop)->KX->Prop
 | .nil,st,Q,_=>Q .next st
 | .cons s ss,st,Q,E=>vS s st (onNext (fun st=>vSs ss st Q E) Q) E
termination_by structural ss=>ss
end
noncomputable def retK (Q:AV->AH->Prop) (f:Fl) (st:St):Prop:=st.on fun _ H=>Fl.casesOn f (Q .none H) fun v=>Q v H
noncomputable def frame0 (fd:FD) (vs:List AV):List (Option AV):=(vs++fd.dflts.drop (fd.dflts.length - (fd.np - vs.length))).map some++List.replicate (fd.names.length - fd.np) none
noncomputable def vCall (fd:FD) (vs:List AV) (H:AH) (Q:AV->AH->Prop) (E:Nat->AH->Prop):Prop :=
 (Nat.ble vs.length fd.np&&Nat.ble fd.np (vs.length + fd.dflts.length))=true/\vSs T C fd.body ⟨frame0 fd vs,H⟩ (retK Q) fun c st=>st.on fun _ H=>E c H
end
noncomputable def callN (T:Tab):Nat->Call
 | 0=>fun _ _ _ _ _ _=>False
 | d+1=>fun c f vs H Q E=>optP (T.fn c f) fun fd=>vCall T (callN T d) fd vs H Q E
structure FRow where
 c:Nat
 f:Nat
 a:Addr
 fd:FD
structure CRow where
 c:Nat
 C:Addr
 fields:List Nat
structure ERow where
 c:Nat
 C:Addr
noncomputable def rowOf:List FRow->Nat->Nat->Option FRow
 | [],_,_=>none
 | r::rs,c,f=>bif Nat.beq r.c c&&Nat.beq r.f f then some r else rowOf rs c f
noncomputable def crowOf:List CRow->Nat->Option CRow
 | [],_=>none
 | r::rs,c=>bif Nat.beq r.c c then some r else crowOf rs c
noncomputable def erowOf:List ERow->Nat->Option ERow
 | [],_=>none
 | r::rs,c=>bif Nat.beq r.c c then some r else erowOf rs c
noncomputable def glbOf:List (Nat×Int)->Nat->Option Int
 | [],_=>none
 | r::rs,c=>bif Nat.beq r.1 c then some r.2 else glbOf rs c
end Ab
end
section
namespace Ab
open PySem
noncomputable def b_write_groups_1_0:ASs:=.cons (.raise 2 none (.fmt (.loc 0 8832768) 8816448 (.txt " does not fit a varint of at most " 8867776 (.fmt (.loc 1 9441536) 9425216 (.nil)))) 8786304 8619456 8622528 8524224) (.nil)
noncomputable def b_write_groups_2_1:ASs:=.cons (.aug 0 .RShift (.cst (.int 7) 25396160) 25297472 25297856) (.nil)
noncomputable def b_write_groups_2_0:ASs:=.cons (.expr (.lmeth (.loc 2 21103296) .bappend (.cons (.bin .BitOr (.bin .BitAnd (.loc 0 21284096) (.cst (.int 127) 21350016) 21284480) (.cst (.int 128) 21448704) 21284864) (.nil)) 21103744 21104704) 21104704) (b_write_groups_2_1)
noncomputable def b_write_groups_0_4:ASs:=.cons (.ret (.prim .bytes (.cons (.loc 2 33834240) (.nil)) 33735680 33736000) 33621312) (.nil)
noncomputable def b_write_groups_0_3:ASs:=.cons (.expr (.lmeth (.loc 2 29426112) .bappend (.cons (.loc 0 29606912) (.nil)) 29426560 29426752) 29426752) (b_write_groups_0_4)
noncomputable def b_write_groups_0_2:ASs:=.cons (.whl (.cmp .GtE (.loc 0 16941760) (.cst (.int 128) 17024128) 16942208) (b_write_groups_2_0) 16843714) (b_write_groups_0_3)
noncomputable def b_write_groups_0_1:ASs:=.cons (.asg (.t0 (.loc 2 12648896)) (.prim .bytearray (.nil) 12747968 12748096) 12649792) (b_write_groups_0_2)
noncomputable def b_write_groups_0_0:ASs:=.cons (.ite (.bop false (.cons (.cmp .Lt (.loc 0 4309504) (.cst (.int 0) 4375296) 4309760) (.cons (.cmp .Gt (.loc 0 4457536) (.loc 1 4523520) 4457984) (.nil))) 4310528) (b_write_groups_1_0) (.nil) 4264385) (b_write_groups_0_1)
noncomputable def fd_write_groups:FD:=⟨22,["n","most","out"],2,[],b_write_groups_0_0⟩
noncomputable def b_read_groups_1_0:ASs:=.cons (.raise 3 none (.txt "a varint is asked at " 8850496 (.fmt (.loc 1 9211136) 9194816 (.nil))) 8818048 8619584 8621504 8523200) (.nil)
noncomputable def b_read_groups_3_0:ASs:=.cons (.raise 3 (some "the octets end within a varint") (.nil) 29855616 29656896 29659072 29560768) (.nil)
noncomputable def b_read_groups_5_0:ASs:=.cons (.raise 4 none (.txt "a varint holds " 55053248 (.fmt (.loc 4 55315520) 55299200 (.txt ", over " 55348800 (.fmt (.loc 3 55480192) 55463872 (.nil))))) 55021568 54888256 54890560 54792256) (.nil)
noncomputable def b_read_groups_4_1:ASs:=.cons (.ret (.tup (.cons (.loc 4 59049280) (.cons (.loc 1 59098688) (.nil))) 59033216) 58918528) (.nil)
noncomputable def b_read_groups_4_0:ASs:=.cons (.ite (.cmp .Gt (.loc 4 50578432) (.loc 3 50644416) 50578880) (b_read_groups_5_0) (.nil) 50532417) (b_read_groups_4_1)
noncomputable def b_read_groups_2_5:ASs:=.cons (.aug 5 .Add (.cst (.int 7) 63194240) 63046464 63046784) (.nil)
noncomputable def b_read_groups_2_4:ASs:=.cons (.ite (.cmp .Lt (.loc 7 46318592) (.cst (.int 128) 46450048) 46318976) (b_read_groups_4_0) (.nil) 46270083) (b_read_groups_2_5)
noncomputable def b_read_groups_2_3:ASs:=.cons (.aug 4 .BitOr (.bin .LShift (.bin .BitAnd (.loc 7 42173632) (.cst (.int 127) 42305088) 42174016) (.loc 5 42436800) 42158272) 42074688 42076352) (b_read_groups_2_4)
noncomputable def b_read_groups_2_2:ASs:=.cons (.aug 1 .Add (.cst (.int 1) 37979072) 37880448 37880768) (b_read_groups_2_3)
noncomputable def b_read_groups_2_1:ASs:=.cons (.asg (.t0 (.loc 7 33686336)) (.sub (.loc 0 33817856) (.loc 1 33899968) 33818112) 33687040) (b_read_groups_2_2)
noncomputable def b_read_groups_2_0:ASs:=.cons (.ite (.cmp .GtE (.loc 1 25346880) (.prim .len (.cons (.loc 0 25511488) (.nil)) 25445632 25446016) 25347712) (b_read_groups_3_0) (.nil) 25300929) (b_read_groups_2_1)
noncomputable def b_read_groups_0_4:ASs:=.cons (.raise 4 none (.txt "a varint goes on behind " 67439360 (.fmt (.loc 2 67849408) 67833088 (.txt " octets" 67964608 (.nil)))) 67407616 67273792 67276608 67178304) (.nil)
noncomputable def b_read_groups_0_3:ASs:=.cons (.for (.loc 6 21103360) (.prim .range (.cons (.loc 2 21333760) (.nil)) 21235008 21235520) (b_read_groups_2_0) 21038218) (b_read_groups_0_4)
noncomputable def b_read_groups_0_2:ASs:=.cons (.asg (.t0 (.loc 5 16843328)) (.cst (.int 0) 16974656) 16843584) (b_read_groups_0_3)
noncomputable def b_read_groups_0_1:ASs:=.cons (.asg (.t0 (.loc 4 12648768)) (.cst (.int 0) 12714560) 12649024) (b_read_groups_0_2)
noncomputable def b_read_groups_0_0:ASs:=.cons (.ite (.cmp .Lt (.loc 1 4309568) (.cst (.int 0) 4391744) 4309824) (b_read_groups_1_0) (.nil) 4263361) (b_read_groups_0_1)
noncomputable def fd_read_groups:FD:=⟨31,["data","at","octets","most","n","shift","turn","octet"],4,[],b_read_groups_0_0⟩
noncomputable def b_put_varint_1_0:ASs:=.cons (.ret (.prim .bytes (.cons (.lst (.cons (.loc 0 8750528) (.nil)) 8734208) (.nil)) 8635648 8635968) 8521280) (.nil)
noncomputable def b_put_varint_0_1:ASs:=.cons (.ret (.call 6 (.cons (.loc 0 12977728) (.cons (.glb 5 13027392) (.nil))) 12764608 12765312) 12650624) (.nil)
noncomputable def b_put_varint_0_0:ASs:=.cons (.ite (.bop true (.cons (.cmp .GtE (.loc 0 4309504) (.cst (.int 0) 4391744) 4309824) (.cons (.cmp .Lt (.loc 0 4490432) (.cst (.int 128) 4556352) 4490816) (.nil))) 4310592) (b_put_varint_1_0) (.nil) 4261441) (b_put_varint_0_1)
noncomputable def fd_put_varint:FD:=⟨48,["n"],1,[],b_put_varint_0_0⟩
noncomputable def b_read_varint_1_0:ASs:=.cons (.ret (.tup (.cons (.sub (.loc 0 8652032) (.loc 1 8734144) 8652288) (.cons (.bin .Add (.loc 1 8816384) (.cst (.int 1) 8898560) 8816640) (.nil))) 8636480) 8521792) (.nil)
noncomputable def b_read_varint_0_1:ASs:=.cons (.ret (.call 7 (.cons (.loc 0 12961472) (.cons (.loc 1 13060032) (.cons (.cst (.int 10) 13125824) (.cons (.glb 5 13191872) (.nil))))) 12764544 12765952) 12651264) (.nil)
noncomputable def b_read_varint_0_0:ASs:=.cons (.ite (.bop true (.cons (.cmp .GtE (.loc 1 4309568) (.cst (.int 0) 4408192) 4309888) (.cons (.cmp .Lt (.loc 1 4506944) (.prim .len (.cons (.loc 0 4655104) (.nil)) 4589248 4589632) 4507712) (.cons (.cmp .Lt (.sub (.loc 0 4836032) (.loc 1 4918144) 4836288) (.cst (.int 128) 5016896) 4836672) (.nil)))) 4312448) (b_read_varint_1_0) (.nil) 4261953) (b_read_varint_0_1)
noncomputable def fd_read_varint:FD:=⟨52,["data","at"],2,[],b_read_varint_0_0⟩
noncomputable def b_put_varint32_1_0:ASs:=.cons (.ret (.prim .bytes (.cons (.lst (.cons (.loc 0 8750528) (.nil)) 8734208) (.nil)) 8635648 8635968) 8521280) (.nil)
noncomputable def b_put_varint32_0_1:ASs:=.cons (.ret (.call 6 (.cons (.loc 0 12977728) (.cons (.glb 8 13027392) (.nil))) 12764608 12765312) 12650624) (.nil)
noncomputable def b_put_varint32_0_0:ASs:=.cons (.ite (.bop true (.cons (.cmp .GtE (.loc 0 4309504) (.cst (.int 0) 4391744) 4309824) (.cons (.cmp .Lt (.loc 0 4490432) (.cst (.int 128) 4556352) 4490816) (.nil))) 4310592) (b_put_varint32_1_0) (.nil) 4261441) (b_put_varint32_0_1)
noncomputable def fd_put_varint32:FD:=⟨56,["n"],1,[],b_put_varint32_0_0⟩
noncomputable def b_read_varint32_1_0:ASs:=.cons (.ret (.tup (.cons (.sub (.loc 0 8652032) (.loc 1 8734144) 8652288) (.cons (.bin .Add (.loc 1 8816384) (.cst (.int 1) 8898560) 8816640) (.nil))) 8636480) 8521792) (.nil)
noncomputable def b_read_varint32_0_1:ASs:=.cons (.ret (.call 7 (.cons (.loc 0 12961472) (.cons (.loc 1 13060032) (.cons (.cst (.int 5) 13125760) (.cons (.glb 8 13175424) (.nil))))) 12764544 12765888) 12651200) (.nil)
noncomputable def b_read_varint32_0_0:ASs:=.cons (.ite (.bop true (.cons (.cmp .GtE (.loc 1 4309568) (.cst (.int 0) 4408192) 4309888) (.cons (.cmp .Lt (.loc 1 4506944) (.prim .len (.cons (.loc 0 4655104) (.nil)) 4589248 4589632) 4507712) (.cons (.cmp .Lt (.sub (.loc 0 4836032) (.loc 1 4918144) 4836288) (.cst (.int 128) 5016896) 4836672) (.nil)))) 4312448) (b_read_varint32_1_0) (.nil) 4261953) (b_read_varint32_0_1)
noncomputable def fd_read_varint32:FD:=⟨60,["data","at"],2,[],b_read_varint32_0_0⟩
noncomputable def b_put_fixed32_1_0:ASs:=.cons (.raise 2 none (.fmt (.loc 0 8832768) 8816448 (.txt " does not fit 32 bits" 8866944 (.nil))) 8785088 8619456 8621312 8523008) (.nil)
noncomputable def b_put_fixed32_0_1:ASs:=.cons (.ret (.prim .bytes (.cons (.lst (.cons (.bin .BitAnd (.loc 0 12879040) (.cst (.int 255) 12944960) 12879424) (.cons (.bin .BitAnd (.bin .RShift (.loc 0 13027072) (.cst (.int 8) 13109312) 13027392) (.cst (.int 255) 13175232) 13027776) (.cons (.bin .BitAnd (.bin .RShift (.loc 0 13257344) (.cst (.int 16) 13339648) 13257728) (.cst (.int 255) 13421952) 13258112) (.cons (.bin .RShift (.loc 0 13504064) (.cst (.int 24) 13586368) 13504448) (.nil))))) 12865536) (.nil)) 12764160 12767296) 12652608) (.nil)
noncomputable def b_put_fixed32_0_0:ASs:=.cons (.ite (.bop false (.cons (.cmp .Lt (.loc 0 4309504) (.cst (.int 0) 4375296) 4309760) (.cons (.cmp .Gt (.loc 0 4457536) (.glb 8 4523648) 4458112) (.nil))) 4310656) (b_put_fixed32_1_0) (.nil) 4263169) (b_put_fixed32_0_1)
noncomputable def fd_put_fixed32:FD:=⟨64,["n"],1,[],b_put_fixed32_0_0⟩
noncomputable def b_read_fixed32_1_0:ASs:=.cons (.raise 3 none (.txt "four octets are not there at " 8851008 (.fmt (.loc 1 9342720) 9326400 (.nil))) 8818560 8619584 8622016 8523712) (.nil)
noncomputable def b_read_fixed32_0_1:ASs:=.cons (.ret (.bin .BitOr (.bin .BitOr (.bin .BitOr (.sub (.loc 0 12764096) (.loc 1 12846208) 12764352) (.bin .LShift (.sub (.loc 0 12945024) (.bin .Add (.loc 1 13027136) (.cst (.int 1) 13109312) 13027392) 12945536) (.cst (.int 8) 13208000) 12945856) 12765632) (.bin .LShift (.sub (.loc 0 13273984) (.bin .Add (.loc 1 13356096) (.cst (.int 2) 13438272) 13356352) 13274496) (.cst (.int 16) 13537024) 13274880) 12766976) (.bin .LShift (.sub (.loc 0 13619392) (.bin .Add (.loc 1 13701504) (.cst (.int 3) 13783680) 13701760) 13619904) (.cst (.int 24) 13882432) 13620288) 12768320) 12653632) (.nil)
noncomputable def b_read_fixed32_0_0:ASs:=.cons (.ite (.bop false (.cons (.cmp .Lt (.loc 1 4309568) (.cst (.int 0) 4391744) 4309824) (.cons (.cmp .Gt (.bin .Add (.loc 1 4474048) (.cst (.int 4) 4556224) 4474304) (.prim .len (.cons (.loc 0 4688000) (.nil)) 4622144 4622528) 4475072) (.nil))) 4311232) (b_read_fixed32_1_0) (.nil) 4263873) (b_read_fixed32_0_1)
noncomputable def fd_read_fixed32:FD:=⟨68,["data","at"],2,[],b_read_fixed32_0_0⟩
noncomputable def b_read_lengthed_1_0:ASs:=.cons (.raise 3 none (.fmt (.loc 2 13060224) 13043904 (.txt " octets are told, " 13159744 (.fmt (.bin .Sub (.prim .len (.cons (.loc 0 13537152) (.nil)) 13471296 13471680) (.loc 1 13668608) 13472000) 13455680 (.txt " are there" 13718464 (.nil))))) 13014016 12813888 12817472 12719168) (.nil)
noncomputable def b_read_lengthed_0_2:ASs:=.cons (.ret (.tup (.cons (.prim .bytes (.cons (.slc (.loc 0 17073536) (.loc 1 17155648) (.bin .Add (.loc 1 17204992) (.loc 2 17287424) 17205504) 17156352 17074496) (.nil)) 16974912 16976256) (.cons (.bin .Add (.loc 1 17435264) (.loc 2 17517696) 17435776) (.nil))) 16960704) 16846016) (.nil)
noncomputable def b_read_lengthed_0_1:ASs:=.cons (.ite (.cmp .Gt (.bin .Add (.loc 1 8503872) (.loc 2 8586304) 8504384) (.prim .len (.cons (.loc 0 8783616) (.nil)) 8717760 8718144) 8505152) (b_read_lengthed_1_0) (.nil) 8459329) (b_read_lengthed_0_2)
noncomputable def b_read_lengthed_0_0:ASs:=.cons (.asg (.t0 (.tup [(2,4260416),(1,4375360)] 4260672)) (.call 9 (.cons (.loc 0 4688000) (.cons (.loc 1 4786560) (.nil))) 4458304 4458944) 4262336) (b_read_lengthed_0_1)
noncomputable def fd_read_lengthed:FD:=⟨72,["data","at","count"],2,[],b_read_lengthed_0_0⟩
noncomputable def b_checksum_1_0:ASs:=.cons (.ret (.call 12 (.cons (.call 11 (.cons (.loc 1 8832960) (.nil)) 8717952 8718336) (.nil)) 8635584 8636480) 8521792) (.nil)
noncomputable def b_checksum_2_0:ASs:=.cons (.ret (.bin .BitAnd (.bin .Add (.bin .Add (.bin .Mult (.prim .sum (.cons (.loc 1 17089984) (.nil)) 17024128 17024512) (.cst (.int 251) 17221504) 17024896) (.bin .Mult (.prim .len (.cons (.loc 1 17386048) (.nil)) 17320192 17320576) (.cst (.int 65537) 17517696) 17321088) 17026176) (.cst (.int 7) 17649024) 17026432) (.glb 8 17715136) 17027008) 16912320) (.nil)
noncomputable def b_checksum_0_2:ASs:=.cons (.raise 2 none (.txt "no check is of kind " 21334656 (.fmt (.loc 0 21679040) 21662720 (.nil))) 21302336 21136576 21138560 21040256) (.nil)
noncomputable def b_checksum_0_1:ASs:=.cons (.ite (.cmp .Eq (.loc 0 12698304) (.glb 13 12830208) 12699136) (b_checksum_2_0) (.nil) 12652481) (b_checksum_0_2)
noncomputable def b_checksum_0_0:ASs:=.cons (.ite (.cmp .Eq (.loc 0 4309696) (.glb 10 4441600) 4310528) (b_checksum_1_0) (.nil) 4261953) (b_checksum_0_1)
noncomputable def fd_checksum:FD:=⟨100,["kind","data"],2,[],b_checksum_0_0⟩
noncomputable def b_decode_manifesto_1_0:ASs:=.cons (.raise 4 none (.txt "manifesto: order number " 25562112 (.fmt (.loc 4 25972288) 25955968 (.txt " is out of reach" 26120832 (.nil)))) 25531072 25396544 25400064 25301760) (.nil)
noncomputable def b_decode_manifesto_3_0:ASs:=.cons (.raise 4 none (.txt "manifesto: level " 54987584 (.fmt (.loc 8 55282880) 55266560 (.txt " is out of reach" 55382272 (.nil)))) 54956352 54822464 54825344 54727040) (.nil)
noncomputable def b_decode_manifesto_2_6:ASs:=.cons (.expr (.lmeth (.loc 7 75629312) .append (.cons (.new 20 (.cons (.loc 8 75958336) (.cons (.loc 9 76073408) (.cons (.loc 10 76172160) (.cons (.loc 11 76287488) (.cons (.loc 12 76451904) (.nil)))))) 75826880 75829376) (.nil)) 75629760 75632832) 75632832) (.nil)
noncomputable def b_decode_manifesto_2_5:ASs:=.cons (.asg (.t0 (.loc 12 71435200)) (.meth (.loc 1 71599616) 17 (.nil) 71600192 71600320) 71436480) (b_decode_manifesto_2_6)
noncomputable def b_decode_manifesto_2_4:ASs:=.cons (.asg (.t0 (.loc 11 67240960)) (.meth (.loc 1 67421760) 17 (.nil) 67422336 67422464) 67242240) (b_decode_manifesto_2_5)
noncomputable def b_decode_manifesto_2_3:ASs:=.cons (.asg (.t0 (.loc 10 63046464)) (.meth (.loc 1 63178112) 19 (.nil) 63178624 63178752) 63047680) (b_decode_manifesto_2_4)
noncomputable def b_decode_manifesto_2_2:ASs:=.cons (.asg (.t0 (.loc 9 58852096)) (.meth (.loc 1 58967360) 15 (.nil) 58967808 58967936) 58853248) (b_decode_manifesto_2_3)
noncomputable def b_decode_manifesto_2_1:ASs:=.cons (.ite (.cmp .GtE (.loc 8 50512896) (.glb 18 50661312) 50513856) (b_decode_manifesto_3_0) (.nil) 50467201) (b_decode_manifesto_2_2)
noncomputable def b_decode_manifesto_2_0:ASs:=.cons (.asg (.t0 (.loc 8 46269248)) (.meth (.loc 1 46400896) 15 (.nil) 46401344 46401472) 46270400) (b_decode_manifesto_2_1)
noncomputable def b_decode_manifesto_0_10:ASs:=.cons (.ret (.new 22 (.cons (.loc 2 84231808) (.cons (.loc 3 84346880) (.cons (.loc 5 84446016) (.cons (.loc 4 84659648) (.cons (.loc 7 84823872) (.nil)))))) 84067584 84070272) 83955584) (.nil)
noncomputable def b_decode_manifesto_0_9:ASs:=.cons (.expr (.meth (.loc 1 79757952) 21 (.nil) 79758272 79758400) 79758400) (b_decode_manifesto_0_10)
noncomputable def b_decode_manifesto_0_8:ASs:=.cons (.whl (.cmp .Lt (.prim .len (.cons (.loc 7 42173568) (.nil)) 42107712 42108096) (.loc 6 42305216) 42108608) (b_decode_manifesto_2_0) 42012872) (b_decode_manifesto_0_9)
noncomputable def b_decode_manifesto_0_7:ASs:=.cons (.asg (.t0 (.loc 7 37814784)) (.lst (.nil) 37929792) 37815104) (b_decode_manifesto_0_8)
noncomputable def b_decode_manifesto_0_6:ASs:=.cons (.asg (.t0 (.loc 6 33620544)) (.meth (.loc 1 33752192) 15 (.nil) 33752640 33752768) 33621696) (b_decode_manifesto_0_7)
noncomputable def b_decode_manifesto_0_5:ASs:=.cons (.asg (.t0 (.loc 5 29426624)) (.meth (.loc 1 29656576) 17 (.nil) 29657152 29657280) 29427904) (b_decode_manifesto_0_6)
noncomputable def b_decode_manifesto_0_4:ASs:=.cons (.ite (.cmp .Gt (.loc 4 21087168) (.glb 16 21268032) 21087808) (b_decode_manifesto_1_0) (.nil) 21041921) (b_decode_manifesto_0_5)
noncomputable def b_decode_manifesto_0_3:ASs:=.cons (.asg (.t0 (.loc 4 16843520)) (.meth (.loc 1 17024320) 15 (.nil) 17024768 17024896) 16844672) (b_decode_manifesto_0_4)
noncomputable def b_decode_manifesto_0_2:ASs:=.cons (.asg (.t0 (.loc 3 12648960)) (.meth (.loc 1 12764224) 15 (.nil) 12764672 12764800) 12650112) (b_decode_manifesto_0_3)
noncomputable def b_decode_manifesto_0_1:ASs:=.cons (.asg (.t0 (.loc 2 8454720)) (.meth (.loc 1 8586368) 15 (.nil) 8586816 8586944) 8455872) (b_decode_manifesto_0_2)
noncomputable def b_decode_manifesto_0_0:ASs:=.cons (.asg (.t0 (.loc 1 4260480)) (.new 14 (.cons (.loc 0 4523520) (.nil)) 4408512 4408896) 4261440) (b_decode_manifesto_0_1)
noncomputable def fd_decode_manifesto:FD:=⟨239,["data","cursor","index","term","last_seq","conf_octets","count","runs","level","size","check","smallest","largest"],1,[],b_decode_manifesto_0_0⟩
noncomputable def b_lay_2_1:ASs:=.cons (.ret0 21169280) (.nil)
noncomputable def b_lay_2_0:ASs:=.cons (.asg (.sub (.loc 0 16974848) (.bin .Sub (.prim .len (.cons (.loc 0 17122880) (.nil)) 17057024 17057408) (.cst (.int 1) 17254272) 17057664) 16975808) (.tup (.cons (.loc 3 17353216) (.cons (.bin .Add (.loc 4 17468224) (.loc 2 17567104) 17468800) (.nil))) 17337792) 16977344) (b_lay_2_1)
noncomputable def b_lay_1_1:ASs:=.cons (.ite (.cmp .Eq (.bin .Add (.loc 3 12764160) (.prim .len (.cons (.loc 4 12961408) (.nil)) 12895616 12895936) 12764864) (.loc 1 13092928) 12765248) (b_lay_2_0) (.nil) 12715138) (.nil)
noncomputable def b_lay_1_0:ASs:=.cons (.asg (.t0 (.tup [(3,8520512),(4,8635520)] 8520832)) (.sub (.loc 0 8734272) (.bin .Sub (.prim .len (.cons (.loc 0 8882304) (.nil)) 8816448 8816832) (.cst (.int 1) 9013696) 8817088) 8735232) 8522240) (b_lay_1_1)
noncomputable def b_lay_0_1:ASs:=.cons (.expr (.lmeth (.loc 0 25231872) .append (.cons (.tup (.cons (.loc 1 25445568) (.cons (.loc 2 25511616) (.nil))) 25429760) (.nil)) 25232320 25233216) 25233216) (.nil)
noncomputable def b_lay_0_0:ASs:=.cons (.ite (.cmp .Gt (.prim .len (.cons (.loc 0 4375488) (.nil)) 4309632 4310016) (.cst (.int 0) 4506880) 4310272) (b_lay_1_0) (.nil) 4260996) (b_lay_0_1)
noncomputable def fd_lay:FD:=⟨260,["kept","at","octets","start","old"],3,[],b_lay_0_0⟩
noncomputable def b_Cursor_init_1_0:ASs:=.cons (.raise 3 none (.txt "place " 8915328 (.fmt (.loc 2 9030208) 9013888 (.txt " is not within " 9080384 (.fmt (.prim .len (.cons (.loc 1 9408640) (.nil)) 9342784 9343168) 9326848 (.txt " octets" 9507520 (.nil)))))) 8884992 8685376 8688448 8590144) (.nil)
noncomputable def b_Cursor_init_0_2:ASs:=.cons (.asg (.attr (.loc 0 16909056) 24 16909248) (.loc 2 17073408) 16909568) (.nil)
noncomputable def b_Cursor_init_0_1:ASs:=.cons (.asg (.attr (.loc 0 12714752) 23 12715072) (.loc 1 12912128) 12715520) (b_Cursor_init_0_2)
noncomputable def b_Cursor_init_0_0:ASs:=.cons (.ite (.bop false (.cons (.cmp .Lt (.loc 2 4375360) (.cst (.int 0) 4457536) 4375616) (.cons (.cmp .Gt (.loc 2 4539840) (.prim .len (.cons (.loc 1 4688000) (.nil)) 4622144 4622528) 4540608) (.nil))) 4376768) (b_Cursor_init_1_0) (.nil) 4330305) (b_Cursor_init_0_1)
noncomputable def fd_Cursor_init:FD:=⟨108,["self","data","at"],3,[.int 0],b_Cursor_init_0_0⟩
noncomputable def b_Cursor_left_0_0:ASs:=.cons (.ret (.bin .Sub (.prim .len (.cons (.attr (.loc 0 4507072) 23 4507392) (.nil)) 4441216 4441920) (.attr (.loc 0 4720896) 24 4721088) 4442560) 4327872) (.nil)
noncomputable def fd_Cursor_left:FD:=⟨114,["self"],1,[],b_Cursor_left_0_0⟩
noncomputable def b_Cursor_varint_1_1:ASs:=.cons (.ret (.sub (.attr (.loc 0 17089984) 23 17090304) (.loc 1 17254336) 17090560) 16975872) (.nil)
noncomputable def b_Cursor_varint_1_0:ASs:=.cons (.asg (.attr (.loc 0 12780544) 24 12780736) (.bin .Add (.loc 1 12944896) (.cst (.int 1) 13027072) 12945152) 12781312) (b_Cursor_varint_1_1)
noncomputable def b_Cursor_varint_0_4:ASs:=.cons (.ret (.loc 2 29606912) 29492224) (.nil)
noncomputable def b_Cursor_varint_0_3:ASs:=.cons (.asg (.attr (.loc 0 25297664) 24 25297856) (.loc 1 25462016) 25298176) (b_Cursor_varint_0_4)
noncomputable def b_Cursor_varint_0_2:ASs:=.cons (.asg (.t0 (.tup [(2,21103168),(1,21152576)] 21103424)) (.call 25 (.cons (.attr (.loc 0 21432320) 23 21432640) (.cons (.loc 1 21613120) (.nil))) 21235392 21236352) 21105280) (b_Cursor_varint_0_3)
noncomputable def b_Cursor_varint_0_1:ASs:=.cons (.ite (.bop true (.cons (.cmp .Lt (.loc 1 8569664) (.prim .len (.cons (.attr (.loc 0 8717824) 23 8718144) (.nil)) 8651968 8652672) 8570752) (.cons (.cmp .Lt (.sub (.attr (.loc 0 8964544) 23 8964864) (.loc 1 9128896) 8965120) (.cst (.int 128) 9227648) 8965504) (.nil))) 8572288) (b_Cursor_varint_1_0) (.nil) 8521730) (b_Cursor_varint_0_2)
noncomputable def b_Cursor_varint_0_0:ASs:=.cons (.asg (.t0 (.loc 1 4326016)) (.attr (.loc 0 4408384) 24 4408576) 4326656) (b_Cursor_varint_0_1)
noncomputable def fd_Cursor_varint:FD:=⟨117,["self","at","n"],1,[],b_Cursor_varint_0_0⟩
noncomputable def b_Cursor_fixed32_0_2:ASs:=.cons (.ret (.loc 1 12829696) 12715008) (.nil)
noncomputable def b_Cursor_fixed32_0_1:ASs:=.cons (.augAttr 0 24 .Add (.cst (.int 4) 8701184) 8520448 8520640 8520960) (b_Cursor_fixed32_0_2)
noncomputable def b_Cursor_fixed32_0_0:ASs:=.cons (.asg (.t0 (.loc 1 4325952)) (.call 26 (.cons (.attr (.loc 0 4605760) 23 4606080) (.cons (.attr (.loc 0 4786688) 24 4786880) (.nil))) 4392448 4393728) 4328192) (b_Cursor_fixed32_0_1)
noncomputable def fd_Cursor_fixed32:FD:=⟨126,["self","n"],1,[],b_Cursor_fixed32_0_0⟩
noncomputable def b_Cursor_lengthed_0_2:ASs:=.cons (.ret (.loc 1 12829696) 12715008) (.nil)
noncomputable def b_Cursor_lengthed_0_1:ASs:=.cons (.asg (.attr (.loc 0 8520448) 24 8520640) (.loc 2 8684800) 8520960) (b_Cursor_lengthed_0_2)
noncomputable def b_Cursor_lengthed_0_0:ASs:=.cons (.asg (.t0 (.tup [(1,4325952),(2,4375360)] 4326208)) (.call 27 (.cons (.attr (.loc 0 4688000) 23 4688320) (.cons (.attr (.loc 0 4868928) 24 4869120) (.nil))) 4458304 4459584) 4328512) (b_Cursor_lengthed_0_1)
noncomputable def fd_Cursor_lengthed:FD:=⟨134,["self","b","at"],1,[],b_Cursor_lengthed_0_0⟩
noncomputable def b_Cursor_done_1_0:ASs:=.cons (.raise 4 none (.fmt (.meth (.loc 0 8865856) 28 (.nil) 8866176 8866304) 8849984 (.txt " octets are left over" 9064320 (.nil))) 8818624 8685120 8687616 8589312) (.nil)
noncomputable def b_Cursor_done_0_0:ASs:=.cons (.ite (.cmp .Lt (.attr (.loc 0 4375488) 24 4375680) (.prim .len (.cons (.attr (.loc 0 4605760) 23 4606080) (.nil)) 4539904 4540608) 4376768) (b_Cursor_done_1_0) (.nil) 4329473) (.nil)
noncomputable def fd_Cursor_done:FD:=⟨156,["self"],1,[],b_Cursor_done_0_0⟩
noncomputable def b_Sink_init_0_0:ASs:=.cons (.asg (.attr (.loc 0 4326144) 29 4326528) (.prim .bytearray (.nil) 4540288 4540416) 4327424) (.nil)
noncomputable def fd_Sink_init:FD:=⟨161,["self"],1,[],b_Sink_init_0_0⟩
noncomputable def b_Sink_varint_1_0:ASs:=.cons (.expr (.lmeth (.attr (.loc 0 8586240) 29 8586624) .bappend (.cons (.loc 1 8882112) (.nil)) 8587072 8587264) 8587264) (.nil)
noncomputable def b_Sink_varint_2_0:ASs:=.cons (.expr (.lmeth (.attr (.loc 0 16974848) 29 16975232) .bextend (.cons (.call 30 (.cons (.loc 1 17451648) (.nil)) 17271296 17271488) (.nil)) 16975680 16976640) 16976640) (.nil)
noncomputable def b_Sink_varint_0_0:ASs:=.cons (.ite (.bop true (.cons (.cmp .GtE (.loc 1 4375296) (.cst (.int 0) 4457536) 4375616) (.cons (.cmp .Lt (.loc 1 4556224) (.cst (.int 128) 4622144) 4556608) (.nil))) 4376384) (b_Sink_varint_1_0) (b_Sink_varint_2_0) 4328195) (.nil)
noncomputable def fd_Sink_varint:FD:=⟨164,["self","n"],2,[],b_Sink_varint_0_0⟩
noncomputable def b_Sink_fixed32_0_0:ASs:=.cons (.expr (.lmeth (.attr (.loc 0 4326144) 29 4326528) .bextend (.cons (.call 31 (.cons (.loc 1 4819392) (.nil)) 4622656 4622848) (.nil)) 4326976 4328000) 4328000) (.nil)
noncomputable def fd_Sink_fixed32:FD:=⟨170,["self","n"],2,[],b_Sink_fixed32_0_0⟩
noncomputable def b_Sink_lengthed_0_1:ASs:=.cons (.expr (.lmeth (.attr (.loc 0 8520448) 29 8520832) .bextend (.cons (.loc 1 8816320) (.nil)) 8521280 8521472) 8521472) (.nil)
noncomputable def b_Sink_lengthed_0_0:ASs:=.cons (.expr (.lmeth (.attr (.loc 0 4326144) 29 4326528) .bextend (.cons (.call 32 (.cons (.prim .len (.cons (.loc 1 4901632) (.nil)) 4835968 4836160) (.nil)) 4622720 4623232) (.nil)) 4326976 4328384) 4328384) (b_Sink_lengthed_0_1)
noncomputable def fd_Sink_lengthed:FD:=⟨176,["self","b"],2,[],b_Sink_lengthed_0_0⟩
noncomputable def b_Sink_done_0_0:ASs:=.cons (.ret (.prim .bytes (.cons (.attr (.loc 0 4539968) 29 4540352) (.nil)) 4441344 4442112) 4327424) (.nil)
noncomputable def fd_Sink_done:FD:=⟨191,["self"],1,[],b_Sink_done_0_0⟩
noncomputable def b_RunInfo_init_0_4:ASs:=.cons (.asg (.attr (.loc 0 21103360) 37 21103872) (.loc 5 21350272) 21104512) (.nil)
noncomputable def b_RunInfo_init_0_3:ASs:=.cons (.asg (.attr (.loc 0 16909056) 36 16909632) (.loc 4 17172480) 16910336) (b_RunInfo_init_0_4)
noncomputable def b_RunInfo_init_0_2:ASs:=.cons (.asg (.attr (.loc 0 12714752) 35 12715136) (.loc 3 12928640) 12715648) (b_RunInfo_init_0_3)
noncomputable def b_RunInfo_init_0_1:ASs:=.cons (.asg (.attr (.loc 0 8520448) 34 8520768) (.loc 2 8717824) 8521216) (b_RunInfo_init_0_2)
noncomputable def b_RunInfo_init_0_0:ASs:=.cons (.asg (.attr (.loc 0 4326144) 33 4326528) (.loc 1 4540032) 4327040) (b_RunInfo_init_0_1)
noncomputable def fd_RunInfo_init:FD:=⟨198,["self","level","size","check","smallest","largest"],6,[],b_RunInfo_init_0_0⟩
noncomputable def b_RunInfo_row_0_0:ASs:=.cons (.ret (.tup (.cons (.attr (.loc 0 4457728) 33 4458112) (.cons (.attr (.loc 0 4655104) 34 4655424) (.cons (.attr (.loc 0 4836032) 35 4836416) (.cons (.attr (.loc 0 5033408) 36 5033984) (.cons (.attr (.loc 0 5280128) 37 5280640) (.nil)))))) 4445120) 4330432) (.nil)
noncomputable def fd_RunInfo_row:FD:=⟨205,["self"],1,[],b_RunInfo_row_0_0⟩
noncomputable def b_RunInfo_fits_0_0:ASs:=.cons (.ret (.bop true (.cons (.cmp .Eq (.prim .len (.cons (.loc 1 4507072) (.nil)) 4441216 4441600) (.attr (.loc 0 4655104) 34 4655424) 4442432) (.cons (.cmp .Eq (.call 38 (.cons (.glb 13 5033728) (.cons (.loc 1 5214336) (.nil))) 4885632 4886720) (.attr (.loc 0 5362368) 35 5362752) 4887616) (.nil))) 4445248) 4330560) (.nil)
noncomputable def fd_RunInfo_fits:FD:=⟨208,["self","data"],2,[],b_RunInfo_fits_0_0⟩
noncomputable def b_Manifesto_init_0_4:ASs:=.cons (.asg (.attr (.loc 0 21103360) 43 21103680) (.loc 5 21300736) 21104128) (.nil)
noncomputable def b_Manifesto_init_0_3:ASs:=.cons (.asg (.attr (.loc 0 16909056) 42 16909632) (.loc 4 17172480) 16910336) (b_Manifesto_init_0_4)
noncomputable def b_Manifesto_init_0_2:ASs:=.cons (.asg (.attr (.loc 0 12714752) 41 12715520) (.loc 3 13027712) 12716416) (b_Manifesto_init_0_3)
noncomputable def b_Manifesto_init_0_1:ASs:=.cons (.asg (.attr (.loc 0 8520448) 40 8520768) (.loc 2 8717824) 8521216) (b_Manifesto_init_0_2)
noncomputable def b_Manifesto_init_0_0:ASs:=.cons (.asg (.attr (.loc 0 4326144) 39 4326528) (.loc 1 4540032) 4327040) (b_Manifesto_init_0_1)
noncomputable def fd_Manifesto_init:FD:=⟨212,["self","index","term","conf_octets","last_seq","runs"],6,[],b_Manifesto_init_0_0⟩
noncomputable def b_Manifesto_row_1_0:ASs:=.cons (.expr (.lmeth (.loc 1 12780544) .append (.cons (.meth (.loc 2 12977856) 44 (.nil) 12978112 12978240) (.nil)) 12780992 12781696) 12781696) (.nil)
noncomputable def b_Manifesto_row_0_2:ASs:=.cons (.ret (.tup (.cons (.attr (.loc 0 17040640) 39 17041024) (.cons (.attr (.loc 0 17238016) 40 17238336) (.cons (.attr (.loc 0 17418944) 41 17419712) (.cons (.attr (.loc 0 17715008) 42 17715584) (.cons (.prim .tuple (.cons (.loc 1 18060416) (.nil)) 17961792 17962176) (.nil)))))) 17028352) 16913664) (.nil)
noncomputable def b_Manifesto_row_0_1:ASs:=.cons (.for (.loc 2 8586176) (.attr (.loc 0 8701376) 43 8701696) (b_Manifesto_row_1_0) 8521857) (b_Manifesto_row_0_2)
noncomputable def b_Manifesto_row_0_0:ASs:=.cons (.asg (.t0 (.loc 1 4326144)) (.lst (.nil) 4441152) 4326464) (b_Manifesto_row_0_1)
noncomputable def fd_Manifesto_row:FD:=⟨219,["self","rows","run"],1,[],b_Manifesto_row_0_0⟩
noncomputable def b_Manifesto_encode_1_4:ASs:=.cons (.expr (.meth (.loc 1 50529280) 17 (.cons (.attr (.loc 2 50759488) 37 50760000) (.nil)) 50529856 50530688) 50530688) (.nil)
noncomputable def b_Manifesto_encode_1_3:ASs:=.cons (.expr (.meth (.loc 1 46334976) 17 (.cons (.attr (.loc 2 46565184) 36 46565760) (.nil)) 46335552 46336448) 46336448) (b_Manifesto_encode_1_4)
noncomputable def b_Manifesto_encode_1_2:ASs:=.cons (.expr (.meth (.loc 1 42140672) 19 (.cons (.attr (.loc 2 42354432) 35 42354816) (.nil)) 42141184 42141888) 42141888) (b_Manifesto_encode_1_3)
noncomputable def b_Manifesto_encode_1_1:ASs:=.cons (.expr (.meth (.loc 1 37946368) 15 (.cons (.attr (.loc 2 38143680) 34 38144000) (.nil)) 37946816 37947456) 37947456) (b_Manifesto_encode_1_2)
noncomputable def b_Manifesto_encode_1_0:ASs:=.cons (.expr (.meth (.loc 1 33752064) 15 (.cons (.attr (.loc 2 33949376) 33 33949760) (.nil)) 33752512 33753216) 33753216) (b_Manifesto_encode_1_1)
noncomputable def b_Manifesto_encode_0_7:ASs:=.cons (.ret (.meth (.loc 1 54772928) 21 (.nil) 54773248 54773376) 54658688) (.nil)
noncomputable def b_Manifesto_encode_0_6:ASs:=.cons (.for (.loc 2 29557696) (.attr (.loc 0 29672896) 43 29673216) (b_Manifesto_encode_1_0) 29493637) (b_Manifesto_encode_0_7)
noncomputable def b_Manifesto_encode_0_5:ASs:=.cons (.expr (.meth (.loc 1 25297664) 15 (.cons (.prim .len (.cons (.attr (.loc 0 25560832) 43 25561152) (.nil)) 25494976 25495680) (.nil)) 25298112 25299136) 25299136) (b_Manifesto_encode_0_6)
noncomputable def b_Manifesto_encode_0_4:ASs:=.cons (.expr (.meth (.loc 1 21103360) 17 (.cons (.attr (.loc 0 21333632) 41 21334400) (.nil)) 21103936 21105088) 21105088) (b_Manifesto_encode_0_5)
noncomputable def b_Manifesto_encode_0_3:ASs:=.cons (.expr (.meth (.loc 1 16909056) 15 (.cons (.attr (.loc 0 17106432) 42 17107008) (.nil)) 16909504 16910464) 16910464) (b_Manifesto_encode_0_4)
noncomputable def b_Manifesto_encode_0_2:ASs:=.cons (.expr (.meth (.loc 1 12714752) 15 (.cons (.attr (.loc 0 12912128) 40 12912448) (.nil)) 12715200 12715904) 12715904) (b_Manifesto_encode_0_3)
noncomputable def b_Manifesto_encode_0_1:ASs:=.cons (.expr (.meth (.loc 1 8520448) 15 (.cons (.attr (.loc 0 8717824) 39 8718208) (.nil)) 8520896 8521664) 8521664) (b_Manifesto_encode_0_2)
noncomputable def b_Manifesto_encode_0_0:ASs:=.cons (.asg (.t0 (.loc 1 4326144)) (.new 45 (.nil) 4441280 4441408) 4326720) (b_Manifesto_encode_0_1)
noncomputable def fd_Manifesto_encode:FD:=⟨225,["self","sink","run"],1,[],b_Manifesto_encode_0_0⟩
noncomputable def b_Inbox_init_1_0:ASs:=.cons (.raise 2 none (.txt "pieces of " 8882688 (.fmt (.loc 2 9063680) 9047360 (.txt " octets" 9260800 (.nil)))) 8851264 8685248 8687488 8589184) (.nil)
noncomputable def b_Inbox_init_2_0:ASs:=.cons (.expr (.lmeth (.attr (.loc 0 29557760) 48 29558080) .append (.cons (.lst (.nil) 29837248) (.nil)) 29558528 29558784) 29558784) (.nil)
noncomputable def b_Inbox_init_0_4:ASs:=.cons (.for (.loc 3 25363392) (.attr (.loc 1 25478912) 43 25479232) (b_Inbox_init_2_0) 25298945) (.nil)
noncomputable def b_Inbox_init_0_3:ASs:=.cons (.asg (.attr (.loc 0 21103360) 48 21103680) (.lst (.nil) 21300608) 21104000) (b_Inbox_init_0_4)
noncomputable def b_Inbox_init_0_2:ASs:=.cons (.asg (.attr (.loc 0 16909056) 47 16909824) (.loc 2 17222016) 16910720) (b_Inbox_init_0_3)
noncomputable def b_Inbox_init_0_1:ASs:=.cons (.asg (.attr (.loc 0 12714752) 46 12715392) (.loc 1 12994688) 12716160) (b_Inbox_init_0_2)
noncomputable def b_Inbox_init_0_0:ASs:=.cons (.ite (.cmp .Lt (.loc 2 4375936) (.cst (.int 1) 4605568) 4376192) (b_Inbox_init_1_0) (.nil) 4329345) (b_Inbox_init_0_1)
noncomputable def fd_Inbox_init:FD:=⟨269,["self","manifesto","piece_limit","run"],3,[],b_Inbox_init_0_0⟩
noncomputable def b_Inbox_first_hole_2_0:ASs:=.cons (.ret (.loc 2 17155712) 17041024) (.nil)
noncomputable def b_Inbox_first_hole_1_1:ASs:=.cons (.asg (.t0 (.loc 2 21169088)) (.bin .Add (.loc 3 21267968) (.prim .len (.cons (.loc 4 21481792) (.nil)) 21415808 21416320) 21268864) 21170560) (.nil)
noncomputable def b_Inbox_first_hole_1_0:ASs:=.cons (.ite (.cmp .Gt (.loc 3 12830016) (.loc 2 12977856) 12830400) (b_Inbox_first_hole_2_0) (.nil) 12781185) (b_Inbox_first_hole_1_1)
noncomputable def b_Inbox_first_hole_0_2:ASs:=.cons (.ret (.loc 2 25412736) 25298048) (.nil)
noncomputable def b_Inbox_first_hole_0_1:ASs:=.cons (.for (.tup [(3,8586368),(4,8717952)] 8586880) (.sub (.attr (.loc 0 8882304) 48 8882624) (.loc 1 9046720) 8882944) (b_Inbox_first_hole_1_0) 8522115) (b_Inbox_first_hole_0_2)
noncomputable def b_Inbox_first_hole_0_0:ASs:=.cons (.asg (.t0 (.loc 2 4326080)) (.cst (.int 0) 4424640) 4326336) (b_Inbox_first_hole_0_1)
noncomputable def fd_Inbox_first_hole:FD:=⟨278,["self","run","end","offset","octets"],2,[],b_Inbox_first_hole_0_0⟩
noncomputable def b_Inbox_missing_2_0:ASs:=.cons (.ret (.tup (.cons (.loc 1 17172160) (.cons (.loc 2 17254592) (.nil))) 17156352) 17041664) (.nil)
noncomputable def b_Inbox_missing_1_1:ASs:=.cons (.ite (.cmp .Lt (.loc 2 12830016) (.attr (.sub (.attr (.attr (.loc 0 12977920) 46 12978560) 43 12978880) (.loc 1 13306816) 12979200) 34 12979520) 12832064) (b_Inbox_missing_2_0) (.nil) 12781825) (.nil)
noncomputable def b_Inbox_missing_1_0:ASs:=.cons (.asg (.t0 (.loc 2 8586368)) (.meth (.loc 0 8734272) 49 (.cons (.loc 1 8997376) (.nil)) 8734976 8735296) 8587840) (b_Inbox_missing_1_1)
noncomputable def b_Inbox_missing_0_1:ASs:=.cons (.ret (.cst (.none) 21218496) 21103808) (.nil)
noncomputable def b_Inbox_missing_0_0:ASs:=.cons (.for (.loc 1 4391872) (.prim .range (.cons (.prim .len (.cons (.attr (.loc 0 4671552) 48 4671872) (.nil)) 4605696 4606400) (.nil)) 4507136 4508160) (b_Inbox_missing_1_0) 4327683) (b_Inbox_missing_0_1)
noncomputable def fd_Inbox_missing:FD:=⟨286,["self","run","offset"],1,[],b_Inbox_missing_0_0⟩
noncomputable def b_Inbox_whole_0_0:ASs:=.cons (.ret (.cmp .Is (.meth (.loc 0 4441280) 50 (.nil) 4441792 4441920) (.cst (.none) 4737344) 4442432) 4327744) (.nil)
noncomputable def fd_Inbox_whole:FD:=⟨293,["self"],1,[],b_Inbox_whole_0_0⟩
noncomputable def b_Inbox_take_1_0:ASs:=.cons (.ret (.cst (.bool false) 8701440) 8586752) (.nil)
noncomputable def b_Inbox_take_2_0:ASs:=.cons (.ret (.cst (.bool false) 17090048) 16975360) (.nil)
noncomputable def b_Inbox_take_4_2:ASs:=.cons (.asg (.t0 (.loc 8 58983616)) (.cst (.bool true) 59082368) 58984064) (.nil)
noncomputable def b_Inbox_take_4_1:ASs:=.cons (.expr (.call 51 (.cons (.loc 6 54855168) (.cons (.loc 7 54953728) (.cons (.prim .bytes (.cons (.slc (.loc 4 55118400) (.bin .Sub (.loc 7 55216896) (.loc 2 55299392) 55217472) (.bin .Sub (.loc 11 55414400) (.loc 2 55529664) 55414976) 55218368 55120128) (.nil)) 55019712 55021888) (.nil)))) 54789312 54792576) 54792576) (b_Inbox_take_4_2)
noncomputable def b_Inbox_take_4_0:ASs:=.cons (.asg (.t0 (.loc 11 50595072)) (.prim .min (.cons (.loc 9 50776064) (.cons (.loc 5 50891072) (.nil))) 50710144 50710912) 50596224) (b_Inbox_take_4_1)
noncomputable def b_Inbox_take_3_2:ASs:=.cons (.asg (.t0 (.loc 7 67306368)) (.prim .max (.cons (.loc 7 67454400) (.cons (.bin .Add (.loc 9 67520384) (.prim .len (.cons (.loc 10 67717632) (.nil)) 67651840 67652160) 67521088) (.nil))) 67388672 67390080) 67308160) (.nil)
noncomputable def b_Inbox_take_3_1:ASs:=.cons (.expr (.call 51 (.cons (.loc 6 63177984) (.cons (.loc 9 63276736) (.cons (.loc 10 63391744) (.nil)))) 63112128 63113280) 63113280) (b_Inbox_take_3_2)
noncomputable def b_Inbox_take_3_0:ASs:=.cons (.ite (.bop true (.cons (.cmp .Lt (.loc 7 46384192) (.loc 5 46466496) 46384576) (.cons (.cmp .Lt (.loc 7 46598016) (.loc 9 46680448) 46598528) (.nil))) 46385536) (b_Inbox_take_4_0) (.nil) 46335619) (b_Inbox_take_3_1)
noncomputable def b_Inbox_take_5_1:ASs:=.cons (.asg (.t0 (.loc 8 79889344)) (.cst (.bool true) 79988096) 79889792) (.nil)
noncomputable def b_Inbox_take_5_0:ASs:=.cons (.expr (.call 51 (.cons (.loc 6 75760896) (.cons (.loc 7 75859456) (.cons (.prim .bytes (.cons (.slc (.loc 4 76024128) (.bin .Sub (.loc 7 76122624) (.loc 2 76205120) 76123200) (.abs) 76123264 76025024) (.nil)) 75925440 75926784) (.nil)))) 75695040 75697472) 75697472) (b_Inbox_take_5_1)
noncomputable def b_Inbox_take_6_0:ASs:=.cons (.asg (.sub (.attr (.loc 0 88278016) 48 88278336) (.loc 1 88442432) 88278656) (.loc 6 88557632) 88279104) (.nil)
noncomputable def b_Inbox_take_0_10:ASs:=.cons (.ret (.loc 8 92521600) 92406912) (.nil)
noncomputable def b_Inbox_take_0_9:ASs:=.cons (.ite (.loc 8 84067200) (b_Inbox_take_6_0) (.nil) 84019265) (b_Inbox_take_0_10)
noncomputable def b_Inbox_take_0_8:ASs:=.cons (.ite (.cmp .Lt (.loc 7 71484224) (.loc 5 71566528) 71484608) (b_Inbox_take_5_0) (.nil) 71435650) (b_Inbox_take_0_9)
noncomputable def b_Inbox_take_0_7:ASs:=.cons (.for (.tup [(9,42140736),(10,42255744)] 42141056) (.sub (.attr (.loc 0 42370944) 48 42371264) (.loc 1 42535360) 42371584) (b_Inbox_take_3_0) 42076806) (b_Inbox_take_0_8)
noncomputable def b_Inbox_take_0_6:ASs:=.cons (.asg (.t0 (.loc 8 37880512)) (.cst (.bool false) 37979328) 37881024) (b_Inbox_take_0_7)
noncomputable def b_Inbox_take_0_5:ASs:=.cons (.asg (.t0 (.loc 7 33686144)) (.loc 2 33768640) 33686720) (b_Inbox_take_0_6)
noncomputable def b_Inbox_take_0_4:ASs:=.cons (.asg (.t0 (.loc 6 29491968)) (.lst (.nil) 29606976) 29492288) (b_Inbox_take_0_5)
noncomputable def b_Inbox_take_0_3:ASs:=.cons (.asg (.t0 (.loc 5 25297600)) (.bin .Add (.loc 2 25396480) (.prim .len (.cons (.loc 4 25610240) (.nil)) 25544320 25544768) 25397312) 25299008) (b_Inbox_take_0_4)
noncomputable def b_Inbox_take_0_2:ASs:=.cons (.asg (.t0 (.loc 4 21103424)) (.slc (.loc 3 21235072) (.abs) (.attr (.loc 0 21366528) 47 21367296) 21350912 21236288) 21105216) (b_Inbox_take_0_3)
noncomputable def b_Inbox_take_0_1:ASs:=.cons (.ite (.cmp .Gt (.bin .Add (.loc 2 12764224) (.prim .len (.cons (.loc 3 12978048) (.nil)) 12912064 12912576) 12765120) (.attr (.sub (.attr (.attr (.loc 0 13142400) 46 13143040) 43 13143360) (.loc 1 13471296) 13143680) 34 13144000) 12767168) (b_Inbox_take_2_0) (.nil) 12715521) (b_Inbox_take_0_2)
noncomputable def b_Inbox_take_0_0:ASs:=.cons (.ite (.bop false (.cons (.cmp .Lt (.loc 1 4375424) (.cst (.int 0) 4473984) 4375680) (.cons (.cmp .GtE (.loc 1 4556352) (.prim .len (.cons (.attr (.loc 0 4737344) 48 4737664) (.nil)) 4671488 4672192) 4557504) (.cons (.cmp .Lt (.loc 2 4967744) (.cst (.int 0) 5115456) 4968000) (.nil)))) 4378176) (b_Inbox_take_1_0) (.nil) 4326913) (b_Inbox_take_0_1)
noncomputable def fd_Inbox_take:FD:=⟨296,["self","run","offset","octets","piece","end","kept","at","new","start","old","stop"],4,[],b_Inbox_take_0_0⟩
noncomputable def b_Inbox_runs_1_0:ASs:=.cons (.raise 3 none (.txt "run " 13109504 (.fmt (.sub (.loc 1 13191744) (.cst (.int 0) 13273792) 13191936) 13175616 (.txt " has a hole at " 13324032 (.fmt (.sub (.loc 1 13586496) (.cst (.int 1) 13668544) 13586688) 13570368 (.nil))))) 13078912 12879680 12882368 12784064) (.nil)
noncomputable def b_Inbox_runs_3_1:ASs:=.cons (.expr (.lmeth (.loc 3 42206592) .append (.cons (.loc 4 42436672) (.nil)) 42207040 42207360) 42207360) (.nil)
noncomputable def b_Inbox_runs_3_0:ASs:=.cons (.asg (.sub (.attr (.loc 0 38012160) 48 38012480) (.loc 4 38176576) 38012800) (.lst (.nil) 38291648) 38013120) (b_Inbox_runs_3_1)
noncomputable def b_Inbox_runs_2_2:ASs:=.cons (.expr (.lmeth (.loc 2 46335040) .append (.cons (.loc 5 46548800) (.nil)) 46335488 46335872) 46335872) (.nil)
noncomputable def b_Inbox_runs_2_1:ASs:=.cons (.ite (.not (.meth (.sub (.attr (.attr (.loc 0 33867200) 46 33867840) 43 33868160) (.loc 4 34196096) 33868480) 52 (.cons (.loc 5 34360640) (.nil)) 33868800 33869184) 33803648) (b_Inbox_runs_3_0) (.nil) 33753218) (b_Inbox_runs_2_2)
noncomputable def b_Inbox_runs_2_0:ASs:=.cons (.asg (.t0 (.loc 5 29557760)) (.lmeth (.cst (.bytes []) 29672832) .join (.cons (.comp ["offset","octets"] [(".0",.local),("offset",.local),("octets",.local)] [] (.tup [(0,30018432),(1,30150016)] 30018944) (.loc 1 29837504) (.sub (.attr (.loc 0 30314368) 48 30314688) (.loc 4 30478784) 30315008) (.abs) 29823552) (.nil)) 29673152 29676160) 29561472) (b_Inbox_runs_2_1)
noncomputable def b_Inbox_runs_4_0:ASs:=.cons (.raise 4 none (.txt "runs " 54986816 (.fmt (.loc 3 55085568) 55069248 (.txt " are not what the manifesto tells" 55202432 (.nil)))) 54956736 54822464 54825728 54727424) (.nil)
noncomputable def b_Inbox_runs_0_6:ASs:=.cons (.ret (.loc 2 58967296) 58852608) (.nil)
noncomputable def b_Inbox_runs_0_5:ASs:=.cons (.ite (.cmp .Gt (.prim .len (.cons (.loc 3 50578752) (.nil)) 50512768 50513280) (.cst (.int 0) 50742912) 50513536) (b_Inbox_runs_4_0) (.nil) 50467585) (b_Inbox_runs_0_6)
noncomputable def b_Inbox_runs_0_4:ASs:=.cons (.for (.loc 4 25363392) (.prim .range (.cons (.prim .len (.cons (.attr (.loc 0 25643072) 48 25643392) (.nil)) 25577216 25577920) (.nil)) 25478656 25479680) (b_Inbox_runs_2_0) 25298821) (b_Inbox_runs_0_5)
noncomputable def b_Inbox_runs_0_3:ASs:=.cons (.asg (.t0 (.loc 3 21103488)) (.lst (.nil) 21251264) 21103808) (b_Inbox_runs_0_4)
noncomputable def b_Inbox_runs_0_2:ASs:=.cons (.asg (.t0 (.loc 2 16909120)) (.lst (.nil) 17040512) 16909440) (b_Inbox_runs_0_3)
noncomputable def b_Inbox_runs_0_1:ASs:=.cons (.ite (.cmp .IsNot (.loc 1 8569792) (.cst (.none) 8767168) 8570560) (b_Inbox_runs_1_0) (.nil) 8524225) (b_Inbox_runs_0_2)
noncomputable def b_Inbox_runs_0_0:ASs:=.cons (.asg (.t0 (.loc 1 4326144)) (.meth (.loc 0 4441280) 50 (.nil) 4441792 4441920) 4327232) (b_Inbox_runs_0_1)
noncomputable def fd_Inbox_runs:FD:=⟨320,["self","hole","found","broken","run","data"],1,[],b_Inbox_runs_0_0⟩
noncomputable def b_Inbox_row_1_0:ASs:=.cons (.expr (.lmeth (.loc 1 12780544) .append (.cons (.prim .tuple (.cons (.loc 2 13076736) (.nil)) 12977984 12978496) (.nil)) 12780992 12781952) 12781952) (.nil)
noncomputable def b_Inbox_row_0_2:ASs:=.cons (.ret (.tup (.cons (.meth (.attr (.loc 0 17040640) 46 17041280) 44 (.nil) 17041536 17041664) (.cons (.prim .tuple (.cons (.loc 1 17501184) (.nil)) 17402560 17402944) (.nil))) 17026176) 16911488) (.nil)
noncomputable def b_Inbox_row_0_1:ASs:=.cons (.for (.loc 2 8586368) (.attr (.loc 0 8750720) 48 8751040) (b_Inbox_row_1_0) 8522113) (b_Inbox_row_0_2)
noncomputable def b_Inbox_row_0_0:ASs:=.cons (.asg (.t0 (.loc 1 4326144)) (.lst (.nil) 4441152) 4326464) (b_Inbox_row_0_1)
noncomputable def fd_Inbox_row:FD:=⟨336,["self","rows","pieces"],1,[],b_Inbox_row_0_0⟩
noncomputable def b_law_draw_0_0:ASs:=.cons (.ret (.bin .Add (.sub (.loc 0 4375488) (.bin .Mod (.loc 1 4457536) (.prim .len (.cons (.loc 0 4589312) (.nil)) 4523456 4523840) 4458304) 4376448) (.bin .Mult (.cst (.int 7919) 4737344) (.bin .FloorDiv (.loc 1 4868736) (.prim .len (.cons (.loc 0 5016960) (.nil)) 4951104 4951488) 4869568) 4738560) 4378112) 4263424) (.nil)
noncomputable def fd_law_draw:FD:=⟨342,["nums","i"],2,[],b_law_draw_0_0⟩
noncomputable def b_law_sum_0_0:ASs:=.cons (.ret (.bin .Add (.bin .Add (.bin .Mult (.prim .sum (.cons (.loc 0 4441408) (.nil)) 4375424 4375936) (.cst (.int 251) 4605696) 4376320) (.bin .Mult (.prim .len (.cons (.loc 0 4770368) (.nil)) 4704384 4704896) (.cst (.int 65537) 4934784) 4705408) 4377728) (.cst (.int 7) 5066112) 4377984) 4263296) (.nil)
noncomputable def fd_law_sum:FD:=⟨344,["octets"],1,[],b_law_sum_0_0⟩
noncomputable def b_law_spoil_0_0:ASs:=.cons (.ret (.bin .Add (.bin .Add (.slc (.loc 0 4375680) (.abs) (.loc 1 4523584) 4507200 4376192) (.prim .bytes (.cons (.lst (.cons (.bin .Mod (.bin .Add (.sub (.loc 0 4803328) (.loc 1 4934784) 4803776) (.loc 2 5082624) 4804096) (.cst (.int 256) 5181376) 4788160) (.nil)) 4771840) (.nil)) 4671616 4673600) 4378688) (.slc (.loc 0 5313216) (.bin .Add (.loc 1 5444672) (.cst (.int 1) 5576000) 5444928) (.abs) 5444992 5313984) 4380096) 4265408) (.nil)
noncomputable def fd_law_spoil:FD:=⟨346,["content","place","by"],3,[],b_law_spoil_0_0⟩
noncomputable def b_law_hole_2_0:ASs:=.cons (.ret (.tup (.cons (.loc 1 12912064) (.cons (.lmeth (.sub (.loc 0 12994432) (.loc 1 13092992) 12994752) .index (.cons (.neg 1 13290240 13273856) (.nil)) 12995136 12995392) (.nil))) 12897152) 12782464) (.nil)
noncomputable def b_law_hole_1_0:ASs:=.cons (.ite (.cmp .In (.neg 1 8586048 8569664) (.sub (.loc 0 8668544) (.loc 1 8767104) 8668864) 8570560) (b_law_hole_2_0) (.nil) 8522625) (.nil)
noncomputable def b_law_hole_0_1:ASs:=.cons (.ret (.cst (.none) 16958400) 16843712) (.nil)
noncomputable def b_law_hole_0_0:ASs:=.cons (.for (.loc 1 4326080) (.prim .range (.cons (.prim .len (.cons (.loc 0 4605824) (.nil)) 4539904 4540352) (.nil)) 4441344 4442112) (b_law_hole_1_0) 4262786) (b_law_hole_0_1)
noncomputable def fd_law_hole:FD:=⟨348,["cells","run"],1,[],b_law_hole_0_0⟩
noncomputable def b_law_stretches_2_0:ASs:=.cons (.aug 3 .Add (.cst (.int 1) 25478400) 25363392 25363712) (.nil)
noncomputable def b_law_stretches_3_0:ASs:=.cons (.expr (.lmeth (.loc 1 33752128) .append (.cons (.tup (.cons (.loc 2 33982208) (.cons (.prim .bytes (.cons (.slc (.loc 0 34146816) (.loc 2 34228928) (.loc 3 34278336) 34229184 34147328) (.nil)) 34048192 34049088) (.nil))) 33967232) (.nil)) 33752576 33754304) 33754304) (.nil)
noncomputable def b_law_stretches_1_3:ASs:=.cons (.asg (.t0 (.loc 2 37880448)) (.bin .Add (.loc 3 37962752) (.cst (.int 1) 38061312) 37963008) 37881088) (.nil)
noncomputable def b_law_stretches_1_2:ASs:=.cons (.ite (.cmp .Gt (.loc 3 29541248) (.loc 2 29639872) 29541568) (b_law_stretches_3_0) (.nil) 29494465) (b_law_stretches_1_3)
noncomputable def b_law_stretches_1_1:ASs:=.cons (.whl (.bop true (.cons (.cmp .Lt (.loc 3 21201984) (.prim .len (.cons (.loc 0 21366528) (.nil)) 21300672 21301056) 21202752) (.cons (.cmp .GtE (.sub (.loc 0 21531008) (.loc 3 21613184) 21531328) (.cst (.int 0) 21744640) 21531648) (.nil))) 21203968) (b_law_stretches_2_0) 21103873) (b_law_stretches_1_2)
noncomputable def b_law_stretches_1_0:ASs:=.cons (.asg (.t0 (.loc 3 16908992)) (.loc 2 17007616) 16909312) (b_law_stretches_1_1)
noncomputable def b_law_stretches_0_3:ASs:=.cons (.ret (.prim .tuple (.cons (.loc 1 42222976) (.nil)) 42124288 42124736) 42010048) (.nil)
noncomputable def b_law_stretches_0_2:ASs:=.cons (.whl (.cmp .Lt (.loc 2 12747520) (.prim .len (.cons (.loc 0 12895680) (.nil)) 12829824 12830208) 12748288) (b_law_stretches_1_0) 12649734) (b_law_stretches_0_3)
noncomputable def b_law_stretches_0_1:ASs:=.cons (.asg (.t0 (.loc 2 8454528)) (.cst (.int 0) 8536704) 8454784) (b_law_stretches_0_2)
noncomputable def b_law_stretches_0_0:ASs:=.cons (.asg (.t0 (.loc 1 4260416)) (.lst (.nil) 4391808) 4260736) (b_law_stretches_0_1)
noncomputable def fd_law_stretches:FD:=⟨353,["cell","found","at","end"],1,[],b_law_stretches_0_0⟩
noncomputable def b_law_same_1_0:ASs:=.cons (.ret (.cst (.bool false) 12829952) 12715264) (.nil)
noncomputable def b_law_same_0_2:ASs:=.cons (.ret (.cmp .Eq (.meth (.loc 0 16958336) 44 (.nil) 16958592 16958720) (.tup (.cons (.loc 2 17188672) (.cons (.prim .tuple (.cons (.comp ["cell"] [(".0",.local),("cell",.local),("_law_stretches",.globalImplicit)] [] (.loc 0 17813696) (.call 55 (.cons (.loc 0 17649216) (.nil)) 17403136 17403520) (.loc 1 17945344) (.abs) 17388352) (.nil)) 17287424 17290112) (.nil))) 17175488) 16962496) 16847808) (.nil)
noncomputable def b_law_same_0_1:ASs:=.cons (.ite (.bop false (.cons (.cmp .NotEq (.meth (.loc 0 8503936) 50 (.nil) 8504448 8504576) (.loc 3 8783616) 8505088) (.cons (.cmp .NotEq (.meth (.loc 0 8915136) 54 (.nil) 8915520 8915648) (.cmp .Is (.loc 3 9178368) (.cst (.none) 9309952) 9178880) 8916800) (.nil))) 8507200) (b_law_same_1_0) (.nil) 8455425) (b_law_same_0_2)
noncomputable def b_law_same_0_0:ASs:=.cons (.asg (.t0 (.loc 3 4260352)) (.call 53 (.cons (.loc 1 4540032) (.nil)) 4375808 4376256) 4261568) (b_law_same_0_1)
noncomputable def fd_law_same:FD:=⟨364,["box","cells","head","hole"],3,[],b_law_same_0_0⟩
noncomputable def b_law_take_3_1:ASs:=.cons (.asg (.t0 (.loc 6 25429184)) (.cst (.bool true) 25527936) 25429632) (.nil)
noncomputable def b_law_take_3_0:ASs:=.cons (.asg (.sub (.sub (.loc 1 21235008) (.loc 3 21333568) 21235328) (.bin .Add (.loc 4 21416000) (.loc 7 21563712) 21416256) 21236096) (.sub (.loc 5 21646208) (.loc 7 21744640) 21646400) 21236800) (b_law_take_3_1)
noncomputable def b_law_take_2_0:ASs:=.cons (.ite (.cmp .Lt (.sub (.sub (.loc 1 17024256) (.loc 3 17122816) 17024576) (.bin .Add (.loc 4 17205248) (.loc 7 17352960) 17205504) 17025344) (.cst (.int 0) 17435200) 17025600) (b_law_take_3_0) (.nil) 16975490) (.nil)
noncomputable def b_law_take_1_0:ASs:=.cons (.for (.loc 7 12780352) (.prim .range (.cons (.prim .min (.cons (.loc 2 13027328) (.cons (.prim .len (.cons (.loc 5 13208256) (.nil)) 13142336 13142784) (.nil))) 12961408 12962624) (.nil)) 12862848 12864384) (b_law_take_2_0) 12715651) (.nil)
noncomputable def b_law_take_0_2:ASs:=.cons (.ret (.cmp .Eq (.meth (.loc 0 29541248) 56 (.cons (.loc 3 29689280) (.cons (.loc 4 29771712) (.cons (.loc 5 29903232) (.nil)))) 29541568 29542848) (.loc 6 30067584) 29543296) 29428608) (.nil)
noncomputable def b_law_take_0_1:ASs:=.cons (.ite (.bop true (.cons (.cmp .LtE (.cst (.int 0) 8503808) (.loc 3 8586176) 8504256) (.cons (.cmp .Lt (.loc 3 8717760) (.prim .len (.cons (.loc 1 8882368) (.nil)) 8816448 8816896) 8718592) (.cons (.cmp .LtE (.cst (.int 0) 9079488) (.loc 4 9162048) 9080128) (.cons (.cmp .LtE (.bin .Add (.loc 4 9375872) (.prim .len (.cons (.loc 5 9589632) (.nil)) 9523712 9524160) 9376704) (.prim .len (.cons (.sub (.loc 1 9819904) (.loc 3 9918464) 9820224) (.nil)) 9753984 9754752) 9377920) (.nil))))) 8509632) (b_law_take_1_0) (.nil) 8455812) (b_law_take_0_2)
noncomputable def b_law_take_0_0:ASs:=.cons (.asg (.t0 (.loc 6 4260288)) (.cst (.bool false) 4359104) 4260800) (b_law_take_0_1)
noncomputable def fd_law_take:FD:=⟨369,["box","cells","limit","run","offset","piece","new","j"],6,[],b_law_take_0_0⟩
noncomputable def b_law_fill_2_0:ASs:=.cons (.asg (.t0 (.loc 8 16975040)) (.call 57 (.cons (.loc 8 17320448) (.cons (.bin .Mod (.loc 6 17468096) (.prim .len (.cons (.loc 8 17600064) (.nil)) 17534016 17534592) 17469056) (.cons (.bin .Add (.cst (.int 1) 17764160) (.bin .Mod (.bin .FloorDiv (.loc 6 17829952) (.cst (.int 32) 17912256) 17830336) (.cst (.int 255) 17994560) 17830720) 17765184) (.nil)))) 17139712 17142656) 16978816) (.nil)
noncomputable def b_law_fill_4_0:ASs:=.cons (.aug 9 .Add (.cst (.int 1) 33916352) 33817728 33818048) (.nil)
noncomputable def b_law_fill_6_0:ASs:=.cons (.ret (.cst (.bool false) 50776064) 50661376) (.nil)
noncomputable def b_law_fill_7_0:ASs:=.cons (.asg (.t0 (.loc 10 59049472)) (.sub (.loc 5 59164544) (.cst (.int 1) 59230208) 59164736) 59050048) (.nil)
noncomputable def b_law_fill_8_0:ASs:=.cons (.ret (.cst (.bool false) 67553280) 67438592) (.nil)
noncomputable def b_law_fill_5_3:ASs:=.cons (.ite (.not (.call 58 (.cons (.loc 0 63457536) (.cons (.loc 1 63539904) (.cons (.loc 2 63655040) (.cons (.loc 7 63770048) (.cons (.loc 9 63852224) (.cons (.slc (.loc 8 63918336) (.loc 9 64049600) (.loc 10 64099072) 64049920 63918912) (.nil))))))) 63293440 63296384) 63230848) (b_law_fill_8_0) (.nil) 63178753) (.nil)
noncomputable def b_law_fill_5_2:ASs:=.cons (.ite (.bop true (.cons (.cmp .IsNot (.loc 5 54838656) (.cst (.none) 55019648) 54839424) (.cons (.cmp .Eq (.sub (.loc 5 55167616) (.cst (.int 0) 55233280) 55167808) (.loc 7 55332096) 55168256) (.cons (.cmp .Lt (.loc 9 55480064) (.sub (.loc 5 55562368) (.cst (.int 1) 55628032) 55562560) 55480640) (.nil)))) 54841728) (b_law_fill_7_0) (.nil) 54790209) (b_law_fill_5_3)
noncomputable def b_law_fill_5_1:ASs:=.cons (.ite (.bop true (.cons (.cmp .Is (.loc 5 46450048) (.cst (.none) 46565248) 46450560) (.cons (.bop false (.cons (.cmp .NotEq (.meth (.loc 0 46729664) 50 (.nil) 46730176 46730304) (.tup (.cons (.loc 7 47025728) (.cons (.loc 9 47107904) (.nil))) 47009664) 46731136) (.cons (.meth (.loc 0 47223104) 54 (.nil) 47223488 47223616) (.nil))) 46732096) (.nil))) 46453632) (b_law_fill_6_0) (.nil) 46401537) (b_law_fill_5_2)
noncomputable def b_law_fill_5_0:ASs:=.cons (.asg (.t0 (.loc 10 42206464)) (.prim .len (.cons (.loc 8 42387584) (.nil)) 42321536 42322112) 42207424) (b_law_fill_5_1)
noncomputable def b_law_fill_3_0:ASs:=.cons (.ite (.bop false (.cons (.cmp .Eq (.tup (.cons (.loc 7 29623488) (.cons (.loc 9 29705664) (.nil))) 29607424) (.loc 5 29820864) 29607872) (.cons (.cmp .GtE (.sub (.sub (.loc 1 29936128) (.loc 7 30034688) 29936448) (.loc 9 30116864) 29936704) (.cst (.int 0) 30231936) 29937024) (.nil))) 29609344) (b_law_fill_4_0) (b_law_fill_5_0) 29558793) (.nil)
noncomputable def b_law_fill_1_3:ASs:=.cons (.whl (.cmp .Lt (.loc 9 25396224) (.prim .len (.cons (.loc 8 25544576) (.nil)) 25478528 25479104) 25397184) (b_law_fill_3_0) 25298954) (.nil)
noncomputable def b_law_fill_1_2:ASs:=.cons (.asg (.t0 (.loc 9 21103232)) (.cst (.int 0) 21185408) 21103488) (b_law_fill_1_3)
noncomputable def b_law_fill_1_1:ASs:=.cons (.ite (.bop true (.cons (.cmp .Eq (.bin .Mod (.bin .FloorDiv (.loc 4 12764224) (.bin .Pow (.cst (.int 2) 12928384) (.loc 7 13010752) 12928832) 12764992) (.cst (.int 2) 13109312) 12765248) (.cst (.int 1) 13191552) 12765568) (.cons (.cmp .Gt (.prim .len (.cons (.loc 8 13356416) (.nil)) 13290368 13290944) (.cst (.int 0) 13536960) 13291200) (.nil))) 12766912) (b_law_fill_2_0) (.nil) 12718977) (b_law_fill_1_2)
noncomputable def b_law_fill_1_0:ASs:=.cons (.asg (.t0 (.loc 8 8520640)) (.sub (.loc 3 8685184) (.loc 7 8832896) 8685504) 8521664) (b_law_fill_1_1)
noncomputable def b_law_fill_0_1:ASs:=.cons (.ret (.cst (.bool true) 71484352) 71369664) (.nil)
noncomputable def b_law_fill_0_0:ASs:=.cons (.for (.loc 7 4326080) (.prim .range (.cons (.prim .len (.cons (.loc 1 4605824) (.nil)) 4539904 4540352) (.nil)) 4441344 4442112) (b_law_fill_1_0) 4261903) (b_law_fill_0_1)
noncomputable def fd_law_fill:FD:=⟨377,["box","cells","limit","contents","faults","gap","z","run","content","at","stop"],7,[],b_law_fill_0_0⟩
noncomputable def b_law_gather_1_0:ASs:=.cons (.ret (.tup (.cons (.cst (.int 0) 8651840) (.cons (.meth (.loc 0 8701312) 43 (.nil) 8701632 8701760) (.nil))) 8636288) 8521600) (.nil)
noncomputable def b_law_gather_0_0:ASs:=.cons (.try (b_law_gather_1_0) [⟨3,1,12764544,17040448,17089856,17024384,16909696,12649857⟩,⟨4,2,21152896,25429056,25478464,25412992,25298304,21038465⟩] 4261253) (.nil)
noncomputable def fd_law_gather:FD:=⟨395,["box"],1,[],b_law_gather_0_0⟩
noncomputable def b_law_asked_1_0:ASs:=.cons (.ret (.cmp .Eq (.loc 4 12829952) (.cst (.int 1) 12977728) 12830272) 12715584) (.nil)
noncomputable def b_law_asked_3_0:ASs:=.cons (.asg (.sub (.cel 1 29557824) (.loc 7 29656384) 29558144) (.bin .Mult (.lst (.cons (.neg 1 29804288 29787904) (.nil)) 29771584) (.prim .len (.cons (.sub (.cel 1 29952576) (.loc 7 30051136) 29952896) (.nil)) 29886656 29887424) 29772736) 29559744) (.nil)
noncomputable def b_law_asked_2_1:ASs:=.cons (.ret (.cmp .Eq (.loc 4 33801472) (.cst (.int 2) 33949248) 33801792) 33687104) (.nil)
noncomputable def b_law_asked_2_0:ASs:=.cons (.for (.loc 7 25363392) (.loc 6 25478720) (b_law_asked_3_0) 25299905) (b_law_asked_2_1)
noncomputable def b_law_asked_4_0:ASs:=.cons (.ret (.cst (.bool false) 50578688) 50464000) (.nil)
noncomputable def b_law_asked_5_0:ASs:=.cons (.ret (.cst (.bool false) 58967296) 58852608) (.nil)
noncomputable def b_law_asked_7_0:ASs:=.cons (.expr (.lmeth (.loc 5 71500864) .pop (.nil) 71501120 71501248) 71501248) (.nil)
noncomputable def b_law_asked_6_0:ASs:=.cons (.whl (.cmp .Gt (.prim .len (.cons (.loc 5 67405248) (.nil)) 67339328 67339776) (.cst (.int 0) 67553024) 67340032) (b_law_asked_7_0) 67241409) (.nil)
noncomputable def b_law_asked_9_0:ASs:=.cons (.asg (.sub (.loc 5 79823680) (.cst (.int 0) 79922112) 79823872) (.bin .Add (.sub (.loc 5 80004608) (.cst (.int 0) 80103040) 80004800) (.cst (.bytes [33]) 80185472) 80005248) 79825024) (.nil)
noncomputable def b_law_asked_10_0:ASs:=.cons (.expr (.lmeth (.loc 5 88212288) .append (.cons (.cst (.bytes [110,111]) 88426112) (.nil)) 88212736 88213184) 88213184) (.nil)
noncomputable def b_law_asked_8_0:ASs:=.cons (.ite (.cmp .Eq (.bin .Mod (.loc 3 75645696) (.cst (.int 3) 75744256) 75645952) (.cst (.int 1) 75826496) 75646272) (b_law_asked_9_0) (b_law_asked_10_0) 75564739) (.nil)
noncomputable def b_law_asked_0_9:ASs:=.cons (.ret (.bop true (.cons (.cmp .Eq (.loc 10 92455936) (.loc 8 92603904) 92456448) (.cons (.cmp .Eq (.call 59 (.cons (.loc 0 92949248) (.nil)) 92752384 92752704) (.tup (.cons (.cst (.int 0) 93097152) (.cons (.loc 8 93146688) (.nil))) 93081216) 92753536) (.cons (.cmp .Eq (.loc 10 93327680) (.loc 8 93475648) 93328192) (.nil)))) 92459904) 92345216) (.nil)
noncomputable def b_law_asked_0_8:ASs:=.cons (.ite (.cmp .Eq (.bin .Mod (.loc 3 63029888) (.cst (.int 3) 63128448) 63030144) (.cst (.int 0) 63210688) 63030464) (b_law_asked_6_0) (b_law_asked_8_0) 62981830) (b_law_asked_0_9)
noncomputable def b_law_asked_0_7:ASs:=.cons (.ite (.cmp .Gt (.prim .len (.cons (.comp ["one"] [(".0",.local),("one",.local),("isinstance",.globalImplicit),("bytes",.globalImplicit)] [] (.loc 0 54855104) (.loc 0 54723520) (.bin .Add (.loc 5 54970368) (.loc 10 55101952) 54970880) (.not (.isb (.loc 0 55496576) 55316096 55578944 55316864) 55251328) 54710720) (.nil)) 54641280 54645248) (.cst (.int 0) 55759616) 54645504) (b_law_asked_5_0) (.nil) 54592769) (b_law_asked_0_8)
noncomputable def b_law_asked_0_6:ASs:=.cons (.ite (.bop false (.cons (.cmp .NotEq (.loc 4 46252800) (.cst (.int 0) 46400576) 46253120) (.cons (.cmp .NotEq (.loc 9 46483072) (.cst (.int 0) 46630848) 46483392) (.cons (.cmp .NotEq (.loc 5 46713344) (.loc 8 46861312) 46713856) (.cons (.cmp .NotEq (.loc 10 47009408) (.loc 8 47157376) 47009920) (.nil))))) 46256320) (b_law_asked_4_0) (.nil) 46204161) (b_law_asked_0_7)
noncomputable def b_law_asked_0_5:ASs:=.cons (.asg (.t0 (.tup [(9,42009152),(10,42124288)] 42009600)) (.call 59 (.cons (.loc 0 42453120) (.nil)) 42256256 42256576) 42010816) (b_law_asked_0_6)
noncomputable def b_law_asked_0_4:ASs:=.cons (.asg (.t0 (.loc 8 37814784)) (.comp ["cell"] [(".0",.local),("cell",.local),("bytes",.globalImplicit)] [] (.loc 0 38209536) (.prim .bytes (.cons (.loc 0 38045056) (.nil)) 37946432 37946816) (.cel 1 38341184) (.abs) 37931648) 37816960) (b_law_asked_0_5)
noncomputable def b_law_asked_0_3:ASs:=.cons (.ite (.cmp .Gt (.prim .len (.cons (.loc 6 21152832) (.nil)) 21086848 21087360) (.cst (.int 0) 21316992) 21087616) (b_law_asked_2_0) (.nil) 21038659) (b_law_asked_0_4)
noncomputable def b_law_asked_0_2:ASs:=.cons (.asg (.t0 (.loc 6 16843392)) (.comp ["run","cells","checks"] [(".0",.local),("run",.local),("_law_sum",.globalImplicit),("cells",.free),("checks",.free)] [(1,1),(2,2)] (.loc 0 17139264) (.loc 0 17007680) (.prim .range (.cons (.prim .len (.cons (.cel 1 17419008) (.nil)) 17353088 17353536) (.nil)) 17254528 17255296) (.cmp .NotEq (.call 60 (.cons (.sub (.cel 1 17747968) (.loc 0 17846528) 17748288) (.nil)) 17600128 17600896) (.sub (.cel 2 17994752) (.loc 0 18109696) 17995072) 17601856) 16995712) 16848256) (b_law_asked_0_3)
noncomputable def b_law_asked_0_1:ASs:=.cons (.ite (.cmp .IsNot (.call 53 (.cons (.cel 1 8668544) (.nil)) 8504320 8504768) (.cst (.none) 8898752) 8505536) (b_law_asked_1_0) (.nil) 8455745) (b_law_asked_0_2)
noncomputable def b_law_asked_0_0:ASs:=.cons (.asg (.t0 (.tup [(4,4260416),(5,4375552)] 4260864)) (.call 59 (.cons (.loc 0 4704384) (.nil)) 4507520 4507840) 4262080) (b_law_asked_0_1)
noncomputable def fd_law_asked:FD:=⟨402,["box","cells","checks","way","state","found","broken","run","want","again","other"],4,[],b_law_asked_0_0⟩
noncomputable def b_law_deed_1_0:ASs:=.cons (.asg (.t0 (.loc 9 25297728)) (.call 57 (.cons (.loc 9 25610240) (.cons (.cst (.int 0) 25725120) (.cons (.bin .Add (.cst (.int 1) 25774464) (.bin .Mod (.bin .FloorDiv (.loc 5 25840256) (.cst (.int 8) 25922496) 25840576) (.cst (.int 255) 25988416) 25840960) 25775424) (.nil)))) 25429632 25431424) 25300352) (.nil)
noncomputable def b_law_deed_2_0:ASs:=.cons (.ret (.call 58 (.cons (.loc 0 33965824) (.cons (.loc 1 34048192) (.cons (.loc 2 34163328) (.cons (.loc 6 34278336) (.cons (.loc 8 34360704) (.cons (.loc 9 34475840) (.nil))))))) 33801728 33804160) 33689472) (.nil)
noncomputable def b_law_deed_3_0:ASs:=.cons (.ret (.call 58 (.cons (.loc 0 42354432) (.cons (.loc 1 42436800) (.cons (.loc 2 42551936) (.cons (.bin .Sub (.cst (.int 0) 42666816) (.cst (.int 1) 42732608) 42667072) (.cons (.loc 8 42782208) (.cons (.loc 9 42897344) (.nil))))))) 42190336 42192896) 42078208) (.nil)
noncomputable def b_law_deed_4_0:ASs:=.cons (.ret (.call 58 (.cons (.loc 0 50743040) (.cons (.loc 1 50825408) (.cons (.loc 2 50940544) (.cons (.prim .len (.cons (.loc 3 51121664) (.nil)) 51055552 51056192) (.cons (.cst (.int 0) 51302144) (.cons (.cst (.bytes [122]) 51351680) (.nil))))))) 50578944 50581696) 50467008) (.nil)
noncomputable def b_law_deed_5_0:ASs:=.cons (.ret (.call 58 (.cons (.loc 0 59131648) (.cons (.loc 1 59214016) (.cons (.loc 2 59329152) (.cons (.loc 6 59444160) (.cons (.bin .Sub (.cst (.int 0) 59526272) (.cst (.int 1) 59592064) 59526528) (.cons (.cst (.bytes [122]) 59641600) (.nil))))))) 58967552 58969920) 58855232) (.nil)
noncomputable def b_law_deed_6_0:ASs:=.cons (.ret (.call 58 (.cons (.loc 0 67520256) (.cons (.loc 1 67602624) (.cons (.loc 2 67717760) (.cons (.loc 6 67832768) (.cons (.loc 8 67915136) (.cons (.bin .Add (.slc (.loc 7 68030400) (.loc 8 68161856) (.abs) 68161920 68030912) (.cst (.bytes [33]) 68326272) 68031360) (.nil))))))) 67356160 67359680) 67244992) (.nil)
noncomputable def b_law_deed_7_0:ASs:=.cons (.ret (.call 61 (.cons (.loc 0 75908864) (.cons (.loc 1 75991232) (.cons (.loc 2 76106368) (.cons (.loc 3 76221696) (.cons (.cst (.int 0) 76385728) (.cons (.cst (.none) 76435264) (.cons (.cst (.int 0) 76533760) (.nil)))))))) 75744768 75747392) 75632704) (.nil)
noncomputable def b_law_deed_8_0:ASs:=.cons (.ret (.call 61 (.cons (.loc 0 84297472) (.cons (.loc 1 84379840) (.cons (.loc 2 84494976) (.cons (.loc 3 84610304) (.cons (.cst (.int 0) 84774336) (.cons (.tup (.cons (.loc 6 84840256) (.cons (.loc 8 84922624) (.nil))) 84824384) (.cons (.cst (.int 0) 85053952) (.nil)))))))) 84133376 84136512) 84021824) (.nil)
noncomputable def b_law_deed_9_0:ASs:=.cons (.ret (.call 61 (.cons (.loc 0 92686080) (.cons (.loc 1 92768448) (.cons (.loc 2 92883584) (.cons (.loc 3 92998912) (.cons (.bin .Mod (.loc 5 93162944) (.cst (.int 16) 93228800) 93163264) (.cons (.cst (.none) 93294720) (.cons (.bin .FloorDiv (.loc 5 93393216) (.cst (.int 16) 93475520) 93393600) (.nil)))))))) 92521984 92525312) 92410624) (.nil)
noncomputable def b_law_deed_0_13:ASs:=.cons (.ret (.cst (.bool true) 96650176) 96535488) (.nil)
noncomputable def b_law_deed_0_12:ASs:=.cons (.ite (.cmp .Eq (.loc 4 88195776) (.cst (.int 5) 88327168) 88196096) (b_law_deed_9_0) (.nil) 88150785) (b_law_deed_0_13)
noncomputable def b_law_deed_0_11:ASs:=.cons (.ite (.cmp .Eq (.loc 4 79807168) (.cst (.int 4) 79938560) 79807488) (b_law_deed_8_0) (.nil) 79761985) (b_law_deed_0_12)
noncomputable def b_law_deed_0_10:ASs:=.cons (.ite (.cmp .Eq (.loc 4 71418560) (.cst (.int 3) 71549952) 71418880) (b_law_deed_7_0) (.nil) 71372865) (b_law_deed_0_11)
noncomputable def b_law_deed_0_9:ASs:=.cons (.ite (.cmp .Eq (.loc 4 63029952) (.cst (.int 2) 63161344) 63030272) (b_law_deed_6_0) (.nil) 62985153) (b_law_deed_0_10)
noncomputable def b_law_deed_0_8:ASs:=.cons (.ite (.bop true (.cons (.cmp .Eq (.loc 4 54641344) (.cst (.int 2) 54772736) 54641664) (.cons (.cmp .Eq (.bin .Mod (.bin .FloorDiv (.loc 5 54871424) (.cst (.int 16) 54953728) 54871808) (.cst (.int 4) 55035904) 54872064) (.cst (.int 2) 55118144) 54872384) (.nil))) 54643008) (b_law_deed_5_0) (.nil) 54595393) (b_law_deed_0_9)
noncomputable def b_law_deed_0_7:ASs:=.cons (.ite (.bop true (.cons (.cmp .Eq (.loc 4 46252736) (.cst (.int 2) 46384128) 46253056) (.cons (.cmp .Eq (.bin .Mod (.bin .FloorDiv (.loc 5 46482816) (.cst (.int 16) 46565120) 46483200) (.cst (.int 4) 46647296) 46483456) (.cst (.int 1) 46729536) 46483776) (.nil))) 46254400) (b_law_deed_4_0) (.nil) 46207169) (b_law_deed_0_8)
noncomputable def b_law_deed_0_6:ASs:=.cons (.ite (.bop true (.cons (.cmp .Eq (.loc 4 37864128) (.cst (.int 2) 37995520) 37864448) (.cons (.cmp .Eq (.bin .Mod (.bin .FloorDiv (.loc 5 38094208) (.cst (.int 16) 38176512) 38094592) (.cst (.int 4) 38258688) 38094848) (.cst (.int 0) 38340928) 38095168) (.nil))) 37865792) (b_law_deed_3_0) (.nil) 37818369) (b_law_deed_0_7)
noncomputable def b_law_deed_0_5:ASs:=.cons (.ite (.cmp .Lt (.loc 4 29475520) (.cst (.int 2) 29590464) 29475776) (b_law_deed_2_0) (.nil) 29429633) (b_law_deed_0_6)
noncomputable def b_law_deed_0_4:ASs:=.cons (.ite (.bop true (.cons (.cmp .Eq (.loc 4 21086912) (.cst (.int 1) 21218304) 21087232) (.cons (.cmp .Gt (.prim .len (.cons (.loc 9 21383040) (.nil)) 21317120 21317568) (.cst (.int 0) 21530816) 21317824) (.nil))) 21088448) (b_law_deed_1_0) (.nil) 21040513) (b_law_deed_0_5)
noncomputable def b_law_deed_0_3:ASs:=.cons (.asg (.t0 (.loc 9 16843328)) (.slc (.loc 7 16975040) (.loc 8 17106496) (.bin .Add (.bin .Add (.loc 8 17205184) (.cst (.int 1) 17336512) 17205440) (.bin .Mod (.bin .FloorDiv (.loc 5 17402304) (.cst (.int 124) 17484672) 17402752) (.cst (.int 12) 17583296) 17403072) 17206464) 17108160 16977152) 16846080) (b_law_deed_0_4)
noncomputable def b_law_deed_0_2:ASs:=.cons (.asg (.t0 (.loc 8 12649024)) (.bin .Mod (.bin .FloorDiv (.loc 5 12780352) (.cst (.int 4) 12862592) 12780672) (.bin .Add (.prim .len (.cons (.loc 7 13011008) (.nil)) 12944960 12945536) (.cst (.int 1) 13191552) 12945792) 12782016) 12650944) (b_law_deed_0_3)
noncomputable def b_law_deed_0_1:ASs:=.cons (.asg (.t0 (.loc 7 8454848)) (.sub (.loc 3 8619392) (.loc 6 8767104) 8619712) 8455872) (b_law_deed_0_2)
noncomputable def b_law_deed_0_0:ASs:=.cons (.asg (.t0 (.loc 6 4260288)) (.bin .Mod (.loc 5 4358848) (.prim .len (.cons (.loc 3 4490880) (.nil)) 4424768 4425408) 4359872) 4261568) (b_law_deed_0_1)
noncomputable def fd_law_deed:FD:=⟨425,["box","cells","limit","contents","deed","z","run","content","place","piece"],6,[],b_law_deed_0_0⟩
noncomputable def b_law_fits_1_0:ASs:=.cons (.ret (.cst (.bool false) 12829952) 12715264) (.nil)
noncomputable def b_law_fits_2_0:ASs:=.cons (.ret (.cst (.bool false) 21218560) 21103872) (.nil)
noncomputable def b_law_fits_3_0:ASs:=.cons (.ret (.cst (.bool false) 29607168) 29492480) (.nil)
noncomputable def b_law_fits_0_4:ASs:=.cons (.ret (.bop true (.cons (.meth (.loc 0 33735616) 52 (.cons (.loc 1 33900288) (.nil)) 33735936 33736512) (.cons (.meth (.loc 0 34113920) 52 (.cons (.prim .bytes (.cons (.prim .sorted (.cons (.loc 1 34492416) (.nil)) 34377216 34377792) (.nil)) 34278464 34279552) (.nil)) 34114240 34115776) (.nil))) 33738944) 33624256) (.nil)
noncomputable def b_law_fits_0_3:ASs:=.cons (.ite (.bop false (.cons (.meth (.loc 0 25281216) 52 (.cons (.call 57 (.cons (.loc 1 25626816) (.cons (.bin .Mod (.loc 2 25774464) (.prim .len (.cons (.loc 1 25906432) (.nil)) 25840384 25840960) 25775424) (.cons (.bin .Add (.cst (.int 1) 26070528) (.bin .Mod (.bin .FloorDiv (.loc 2 26136320) (.cst (.int 32) 26218624) 26136704) (.cst (.int 255) 26300928) 26137088) 26071552) (.nil)))) 25446080 25449024) (.nil)) 25281536 25285248) (.cons (.meth (.loc 0 26449024) 52 (.cons (.bin .Add (.loc 1 26613696) (.cst (.bytes [0]) 26778176) 26614336) (.nil)) 26449344 26450560) (.nil))) 25287296) (b_law_fits_3_0) (.nil) 25232641) (b_law_fits_0_4)
noncomputable def b_law_fits_0_2:ASs:=.cons (.ite (.meth (.new 20 (.cons (.cst (.int 0) 17024000) (.cons (.prim .len (.cons (.loc 1 17139520) (.nil)) 17073472 17074048) (.cons (.bin .Add (.loc 3 17303872) (.cst (.int 1) 17435200) 17304128) (.cons (.cst (.bytes [97]) 17484736) (.cons (.cst (.bytes [98,99]) 17583488) (.nil)))))) 16892800 16895424) 52 (.cons (.loc 1 17780992) (.nil)) 16895744 16896320) (b_law_fits_2_0) (.nil) 16844033) (b_law_fits_0_3)
noncomputable def b_law_fits_0_1:ASs:=.cons (.ite (.meth (.new 20 (.cons (.cst (.int 0) 8635392) (.cons (.bin .Add (.prim .len (.cons (.loc 1 8750912) (.nil)) 8684864 8685440) (.cst (.int 1) 8931456) 8685696) (.cons (.loc 3 8981056) (.cons (.cst (.bytes [97]) 9096128) (.cons (.cst (.bytes [98,99]) 9194880) (.nil)))))) 8504192 8506816) 52 (.cons (.loc 1 9392384) (.nil)) 8507136 8507712) (b_law_fits_1_0) (.nil) 8455425) (b_law_fits_0_2)
noncomputable def b_law_fits_0_0:ASs:=.cons (.asg (.t0 (.loc 3 4260416)) (.call 60 (.cons (.loc 1 4540160) (.nil)) 4392192 4392768) 4261696) (b_law_fits_0_1)
noncomputable def fd_law_fits:FD:=⟨449,["info","content","z","check"],3,[],b_law_fits_0_0⟩
noncomputable def b_law_ended_2_0:ASs:=.cons (.ret (.cst (.bool false) 12895744) 12781056) (.nil)
noncomputable def b_law_ended_3_0:ASs:=.cons (.ret (.cst (.bool false) 21284352) 21169664) (.nil)
noncomputable def b_law_ended_1_1:ASs:=.cons (.ite (.not (.call 62 (.cons (.sub (.loc 0 17205184) (.loc 6 17303616) 17205376) (.cons (.sub (.loc 1 17369664) (.loc 6 17468096) 17369856) (.cons (.loc 4 17534208) (.cons (.bin .Add (.loc 7 17665472) (.loc 8 17731456) 17665920) (.nil))))) 17024576 17027008) 16961472) (b_law_ended_3_0) (.nil) 16909825) (.nil)
noncomputable def b_law_ended_1_0:ASs:=.cons (.ite (.not (.call 61 (.cons (.sub (.loc 0 8800128) (.loc 6 8898560) 8800320) (.cons (.sub (.loc 1 8964608) (.loc 6 9063040) 8964800) (.cons (.sub (.loc 2 9129152) (.loc 6 9243968) 9129344) (.cons (.loc 3 9310208) (.cons (.cst (.int 0) 9474240) (.cons (.cst (.none) 9523776) (.cons (.cst (.int 0) 9622272) (.nil)))))))) 8635904 8639296) 8573760) (b_law_ended_2_0) (.nil) 8521217) (b_law_ended_1_1)
noncomputable def b_law_ended_4_0:ASs:=.cons (.ret (.cst (.bool false) 29607168) 29492480) (.nil)
noncomputable def b_law_ended_5_0:ASs:=.cons (.ret (.cst (.bool false) 37995776) 37881088) (.nil)
noncomputable def b_law_ended_6_0:ASs:=.cons (.ret (.cst (.bool false) 46384384) 46269696) (.nil)
noncomputable def b_law_ended_0_4:ASs:=.cons (.ret (.bop true (.cons (.call 62 (.cons (.sub (.loc 0 50693824) (.loc 6 50792256) 50694016) (.cons (.sub (.loc 1 50858304) (.loc 6 50956736) 50858496) (.cons (.loc 4 51022848) (.cons (.bin .Add (.loc 7 51154112) (.cst (.int 2) 51219904) 51154368) (.nil))))) 50513216 50515456) (.cons (.call 63 (.cons (.sub (.loc 0 51499776) (.loc 6 51598208) 51499968) (.cons (.sub (.loc 1 51664256) (.loc 6 51762688) 51664448) (.cons (.loc 5 51828672) (.nil)))) 51335552 51337216) (.nil))) 50518016) 50403328) (.nil)
noncomputable def b_law_ended_0_3:ASs:=.cons (.ite (.not (.call 58 (.cons (.sub (.loc 0 42288768) (.loc 6 42387200) 42288960) (.cons (.sub (.loc 1 42453248) (.loc 6 42551680) 42453440) (.cons (.sub (.loc 2 42617792) (.loc 6 42732608) 42617984) (.cons (.cst (.int 0) 42798400) (.cons (.cst (.int 0) 42847744) (.cons (.call 57 (.cons (.sub (.loc 3 43078464) (.cst (.int 0) 43226048) 43078656) (.cons (.cst (.int 0) 43291840) (.cons (.cst (.int 1) 43341184) (.nil)))) 42897664 42898880) (.nil))))))) 42124544 42128896) 42063360) (b_law_ended_6_0) (.nil) 42009857) (b_law_ended_0_4)
noncomputable def b_law_ended_0_2:ASs:=.cons (.ite (.not (.call 58 (.cons (.sub (.loc 0 33900160) (.loc 6 33998592) 33900352) (.cons (.sub (.loc 1 34064640) (.loc 6 34163072) 34064832) (.cons (.sub (.loc 2 34229184) (.loc 6 34344000) 34229376) (.cons (.cst (.int 0) 34409792) (.cons (.cst (.int 0) 34459136) (.cons (.sub (.loc 3 34508928) (.cst (.int 0) 34656512) 34509120) (.nil))))))) 33735936 33739136) 33673600) (b_law_ended_5_0) (.nil) 33621249) (b_law_ended_0_3)
noncomputable def b_law_ended_0_1:ASs:=.cons (.ite (.not (.meth (.sub (.loc 0 25347072) (.loc 6 25445504) 25347264) 54 (.nil) 25347648 25347776) 25282240) (b_law_ended_4_0) (.nil) 25232641) (b_law_ended_0_2)
noncomputable def b_law_ended_0_0:ASs:=.cons (.for (.loc 8 4326144) (.prim .range (.cons (.cst (.int 2) 4556224) (.nil)) 4457792 4457984) (b_law_ended_1_0) 4261380) (b_law_ended_0_1)
noncomputable def fd_law_ended:FD:=⟨458,["boxes","cells","limits","contents","checks","head","w","z","turn"],8,[],b_law_ended_0_0⟩
noncomputable def b_law_1_0:ASs:=.cons (.asg (.t0 (.loc 1 12714752)) (.lst (.cons (.cst (.int 3) 12846144) (.nil)) 12829824) 12715136) (.nil)
noncomputable def b_law_2_0:ASs:=.cons (.expr (.lmeth (.loc 3 29492096) .reverse (.nil) 29492608 29492736) 29492736) (.nil)
noncomputable def b_law_4_0:ASs:=.cons (.asg (.t0 (.loc 10 67306496)) (.bin .Add (.cst (.int 1) 67421440) (.bin .Mod (.cel 9 67487232) (.cst (.int 30) 67553088) 67487552) 67422016) 67307328) (.nil)
noncomputable def b_law_3_6:ASs:=.cons (.expr (.lmeth (.loc 7 84017920) .append (.cons (.tup (.cons (.bin .Mod (.cel 9 84231552) (.cst (.int 12) 84297408) 84231872) (.cons (.loc 10 84363328) (.cons (.sub (.loc 5 84462144) (.loc 8 84577088) 84462464) (.cons (.cst (.bytes [97]) 84675840) (.cons (.cst (.bytes [98,99]) 84774592) (.nil)))))) 84217600) (.nil)) 84018368 84021056) 84021056) (.nil)
noncomputable def b_law_3_5:ASs:=.cons (.expr (.lmeth (.loc 6 79823680) .append (.cons (.new 20 (.cons (.bin .Mod (.cel 9 80168832) (.cst (.int 12) 80234688) 80169152) (.cons (.loc 10 80300608) (.cons (.sub (.loc 5 80399424) (.loc 8 80514368) 80399744) (.cons (.cst (.bytes [97]) 80613120) (.cons (.cst (.bytes [98,99]) 80711872) (.nil)))))) 80037632 80040192) (.nil)) 79824128 79827264) 79827264) (b_law_3_6)
noncomputable def b_law_3_4:ASs:=.cons (.expr (.lmeth (.loc 5 75629440) .append (.cons (.call 60 (.cons (.sub (.cel 4 76007872) (.loc 8 76155584) 76008192) (.nil)) 75859840 75860800) (.nil)) 75629888 75631488) 75631488) (b_law_3_5)
noncomputable def b_law_3_3:ASs:=.cons (.expr (.lmeth (.cel 4 71435264) .append (.cons (.prim .bytes (.cons (.comp ["j","x"] [(".0",.local),("j",.local),("x",.free)] [(1,9)] (.loc 0 72290112) (.bin .Mod (.bin .Add (.bin .FloorDiv (.cel 1 71829568) (.cst (.int 30) 71911872) 71829952) (.bin .Mult (.cst (.int 37) 71994112) (.loc 0 72076288) 71994368) 71830528) (.cst (.int 256) 72158656) 71814592) (.prim .range (.cons (.loc 10 72471232) (.nil)) 72372608 72372992) (.abs) 71799616) (.nil)) 71698240 71701376) (.nil)) 71435712 71439296) 71439296) (b_law_3_4)
noncomputable def b_law_3_2:ASs:=.cons (.ite (.cmp .Eq (.loc 8 63095680) (.cst (.int 0) 63210688) 63096000) (b_law_4_0) (.nil) 63047489) (b_law_3_3)
noncomputable def b_law_3_1:ASs:=.cons (.asg (.t0 (.loc 10 58852096)) (.bin .Mod (.cel 9 58967040) (.cst (.int 10) 59032896) 58967360) 58852672) (b_law_3_2)
noncomputable def b_law_3_0:ASs:=.cons (.asg (.t0 (.cel 9 54657600)) (.call 64 (.cons (.loc 1 54888064) (.cons (.bin .Add (.cst (.int 1) 54986560) (.loc 8 55052480) 54986944) (.nil))) 54723904 54724864) 54659328) (b_law_3_1)
noncomputable def b_law_5_0:ASs:=.cons (.ret (.cst (.bool false) 105104640) 104989952) (.nil)
noncomputable def b_law_6_0:ASs:=.cons (.ret (.cst (.bool false) 126076160) 125961472) (.nil)
noncomputable def b_law_7_0:ASs:=.cons (.ret (.cst (.bool false) 134464768) 134350080) (.nil)
noncomputable def b_law_8_0:ASs:=.cons (.ret (.cst (.bool false) 142853376) 142738688) (.nil)
noncomputable def b_law_10_0:ASs:=.cons (.ret (.cst (.bool false) 168084992) 167970304) (.nil)
noncomputable def b_law_12_0:ASs:=.cons (.ret (.cst (.bool false) 180733696) 180619008) (.nil)
noncomputable def b_law_11_0:ASs:=.cons (.ite (.not (.call 62 (.cons (.sub (.loc 14 176654528) (.loc 19 176752960) 176654720) (.cons (.sub (.loc 15 176819008) (.loc 19 176917440) 176819200) (.cons (.loc 5 176983552) (.cons (.bin .Add (.cel 9 177114816) (.loc 20 177180800) 177115264) (.nil))))) 176473920 176476352) 176410816) (b_law_12_0) (.nil) 176359169) (.nil)
noncomputable def b_law_13_0:ASs:=.cons (.ret (.cst (.bool false) 189056512) 188941824) (.nil)
noncomputable def b_law_9_5:ASs:=.cons (.asg (.sub (.loc 17 193069824) (.loc 19 193151872) 193070016) (.meth (.sub (.loc 14 193234368) (.loc 19 193332800) 193234560) 44 (.nil) 193234816 193234944) 193071104) (.nil)
noncomputable def b_law_9_4:ASs:=.cons (.ite (.bop false (.cons (.not (.call 63 (.cons (.sub (.loc 14 184960896) (.loc 19 185059328) 184961088) (.cons (.sub (.loc 15 185125376) (.loc 19 185223808) 185125568) (.cons (.loc 11 185289792) (.nil)))) 184796672 184798336) 184732800) (.cons (.cmp .NotEq (.meth (.sub (.loc 14 185437888) (.bin .Sub (.cst (.int 1) 185536320) (.loc 19 185602112) 185536576) 185438336) 44 (.nil) 185438592 185438720) (.sub (.loc 17 185799680) (.bin .Sub (.cst (.int 1) 185881728) (.loc 19 185947520) 185881984) 185800128) 185439680) (.nil))) 184735168) (b_law_13_0) (.nil) 184681985) (b_law_9_5)
noncomputable def b_law_9_3:ASs:=.cons (.for (.loc 20 172164096) (.prim .range (.cons (.bin .Mod (.bin .FloorDiv (.cel 9 172394176) (.cst (.int 14) 172476480) 172394560) (.cst (.int 3) 172558656) 172394816) (.nil)) 172295744 172296576) (b_law_11_0) 172099330) (b_law_9_4)
noncomputable def b_law_9_2:ASs:=.cons (.ite (.not (.call 69 (.cons (.sub (.loc 14 163989376) (.loc 19 164087808) 163989568) (.cons (.sub (.loc 15 164153856) (.loc 19 164252288) 164154048) (.cons (.sub (.loc 3 164318400) (.loc 19 164433216) 164318592) (.cons (.cel 4 164499456) (.cons (.bin .Mod (.bin .FloorDiv (.cel 9 164663488) (.cst (.int 2) 164745728) 164663808) (.cst (.int 7) 164811520) 164664064) (.cons (.bin .FloorDiv (.cel 9 164860864) (.cst (.int 42) 164943168) 164861248) (.nil))))))) 163825152 163829120) 163763584) (b_law_10_0) (.nil) 163710465) (b_law_9_3)
noncomputable def b_law_9_1:ASs:=.cons (.asg (.t0 (.loc 19 159515200)) (.bin .Mod (.cel 9 159580992) (.cst (.int 2) 159646784) 159581248) 159515712) (b_law_9_2)
noncomputable def b_law_9_0:ASs:=.cons (.asg (.t0 (.cel 9 155320896)) (.call 64 (.cons (.loc 1 155551360) (.cons (.bin .Add (.cst (.int 6) 155649856) (.loc 18 155715648) 155650112) (.nil))) 155387200 155388032) 155322496) (b_law_9_1)
noncomputable def b_law_15_0:ASs:=.cons (.ret (.cst (.bool false) 205833728) 205719040) (.nil)
noncomputable def b_law_16_0:ASs:=.cons (.ret (.cst (.bool false) 214222336) 214107648) (.nil)
noncomputable def b_law_14_2:ASs:=.cons (.asg (.sub (.loc 17 218235648) (.loc 19 218317696) 218235840) (.meth (.sub (.loc 14 218400192) (.loc 19 218498624) 218400384) 44 (.nil) 218400640 218400768) 218236928) (.nil)
noncomputable def b_law_14_1:ASs:=.cons (.ite (.cmp .NotEq (.meth (.sub (.loc 14 209896448) (.bin .Sub (.cst (.int 1) 209994880) (.loc 19 210060672) 209995136) 209896896) 44 (.nil) 209897152 209897280) (.sub (.loc 17 210258240) (.bin .Sub (.cst (.int 1) 210340288) (.loc 19 210406080) 210340544) 210258688) 209898240) (b_law_16_0) (.nil) 209847809) (b_law_14_2)
noncomputable def b_law_14_0:ASs:=.cons (.ite (.not (.call 70 (.cons (.loc 14 201754560) (.cons (.loc 15 201869696) (.cons (.loc 3 201984896) (.cons (.cel 4 202116608) (.cons (.loc 5 202280960) (.cons (.loc 11 202412416) (.cons (.loc 19 202510912) (.cons (.loc 13 202560256) (.nil))))))))) 201573952 201577280) 201511744) (b_law_15_0) (.nil) 201459201) (b_law_14_1)
noncomputable def b_law_0_23:ASs:=.cons (.ret (.cmp .Eq (.meth (.loc 12 222479616) 44 (.nil) 222479872 222480000) (.loc 11 222791808) 222480512) 222365824) (.nil)
noncomputable def b_law_0_22:ASs:=.cons (.for (.loc 19 197263936) (.prim .range (.cons (.cst (.int 2) 197444864) (.nil)) 197346432 197346624) (b_law_14_0) 197199877) (b_law_0_23)
noncomputable def b_law_0_21:ASs:=.cons (.for (.loc 18 151126592) (.prim .range (.cons (.bin .Add (.cst (.int 2) 151307520) (.bin .FloorDiv (.prim .len (.cons (.loc 1 151439296) (.nil)) 151373440 151373824) (.cst (.int 2) 151587136) 151374144) 151308608) (.nil)) 151209088 151210368) (b_law_9_0) 151062538) (b_law_0_22)
noncomputable def b_law_0_20:ASs:=.cons (.asg (.t0 (.loc 17 146866688)) (.lst (.cons (.meth (.sub (.loc 14 146998336) (.cst (.int 0) 147096768) 146998528) 44 (.nil) 146998784 146998912) (.cons (.meth (.sub (.loc 14 147261504) (.cst (.int 1) 147359936) 147261696) 44 (.nil) 147261952 147262080) (.nil))) 146983616) 146868928) (b_law_0_21)
noncomputable def b_law_0_19:ASs:=.cons (.ite (.bop false (.cons (.not (.call 63 (.cons (.sub (.loc 14 138757760) (.cst (.int 0) 138856192) 138757952) (.cons (.sub (.loc 15 138922240) (.cst (.int 0) 139020672) 138922432) (.cons (.loc 11 139086656) (.nil)))) 138593536 138595200) 138529664) (.cons (.not (.call 63 (.cons (.sub (.loc 14 139465024) (.cst (.int 1) 139563456) 139465216) (.cons (.sub (.loc 15 139629504) (.cst (.int 1) 139727936) 139629696) (.cons (.loc 11 139793920) (.nil)))) 139300800 139302464) 139236928) (.nil))) 138532416) (b_law_8_0) (.nil) 138478849) (b_law_0_20)
noncomputable def b_law_0_18:ASs:=.cons (.ite (.not (.call 62 (.cons (.sub (.loc 14 130385600) (.cst (.int 0) 130484032) 130385792) (.cons (.sub (.loc 15 130550080) (.cst (.int 0) 130648512) 130550272) (.cons (.loc 5 130714624) (.cons (.loc 13 130845888) (.nil))))) 130204992 130206976) 130141440) (b_law_7_0) (.nil) 130090241) (b_law_0_19)
noncomputable def b_law_0_17:ASs:=.cons (.ite (.not (.call 61 (.cons (.sub (.loc 14 121980544) (.cst (.int 0) 122078976) 121980736) (.cons (.sub (.loc 15 122145024) (.cst (.int 0) 122243456) 122145216) (.cons (.sub (.loc 3 122309568) (.cst (.int 0) 122424384) 122309760) (.cons (.cel 4 122490624) (.cons (.loc 16 122654976) (.cons (.cst (.none) 122786432) (.cons (.bin .FloorDiv (.loc 13 122884928) (.cst (.int 15) 122967232) 122885312) (.nil)))))))) 121816320 121820416) 121754880) (b_law_6_0) (.nil) 121701633) (b_law_0_18)
noncomputable def b_law_0_16:ASs:=.cons (.asg (.t0 (.loc 16 117506688)) (.bin .Add (.cst (.int 1) 117654400) (.bin .Mod (.loc 13 117720192) (.bin .Sub (.bin .Pow (.cst (.int 2) 117802432) (.prim .len (.cons (.cel 4 117950912) (.nil)) 117884800 117885440) 117803520) (.cst (.int 1) 118147840) 117803776) 117721920) 117656384) 117508928) (b_law_0_17)
noncomputable def b_law_0_15:ASs:=.cons (.asg (.t0 (.loc 15 113312320)) (.comp ["limit","contents"] [(".0",.local),("limit",.local),("contents",.free)] [(1,4)] (.loc 0 114282752) (.comp ["content"] [(".0",.local),("content",.local),("len",.globalImplicit)] [] (.loc 0 113871680) (.bin .Mult (.lst (.cons (.neg 1 113509440 113493056) (.nil)) 113476736) (.prim .len (.cons (.loc 0 113657856) (.nil)) 113591808 113592384) 113477696) (.cel 1 114052672) (.abs) 113462912) (.loc 3 114430848) (.abs) 113447872) 113316800) (b_law_0_16)
noncomputable def b_law_0_14:ASs:=.cons (.asg (.t0 (.loc 14 109118016)) (.lst (.cons (.new 68 (.cons (.loc 12 109364992) (.cons (.sub (.loc 3 109545728) (.cst (.int 0) 109660544) 109545920) (.nil))) 109266048 109267456) (.cons (.new 68 (.cons (.loc 12 109841984) (.cons (.sub (.loc 3 110022720) (.cst (.int 1) 110137536) 110022912) (.nil))) 109743040 109744448) (.nil))) 109252992) 109121920) (b_law_0_15)
noncomputable def b_law_0_13:ASs:=.cons (.ite (.bop false (.cons (.cmp .NotEq (.meth (.loc 12 100779008) 44 (.nil) 100779264 100779392) (.loc 11 101091200) 100779904) (.cons (.not (.call 67 (.cons (.sub (.attr (.loc 12 101453376) 43 101453696) (.cst (.int 0) 101699584) 101453888) (.cons (.sub (.cel 4 101765824) (.cst (.int 0) 101913408) 101766016) (.cons (.loc 13 101979200) (.nil)))) 101288896 101291136) 101225600) (.nil))) 100783232) (b_law_5_0) (.nil) 100730113) (b_law_0_14)
noncomputable def b_law_0_12:ASs:=.cons (.asg (.t0 (.loc 13 96534848)) (.call 64 (.cons (.loc 1 96765312) (.cons (.cst (.int 5) 96863808) (.nil))) 96601152 96601728) 96536192) (b_law_0_13)
noncomputable def b_law_0_11:ASs:=.cons (.asg (.t0 (.loc 12 92341056)) (.call 66 (.cons (.meth (.new 22 (.cons (.bin .Mod (.loc 2 92982016) (.cst (.int 300) 93047936) 92982400) (.cons (.cst (.int 3) 93130048) (.cons (.cst (.bytes [99,111,110,102]) 93179776) (.cons (.cst (.int 200) 93327552) (.cons (.loc 6 93409920) (.nil)))))) 92818048 92820160) 65 (.nil) 92820608 92820736) (.nil)) 92538880 92542272) 92345664) (b_law_0_12)
noncomputable def b_law_0_10:ASs:=.cons (.asg (.t0 (.loc 11 88146432)) (.tup (.cons (.bin .Mod (.loc 2 88277824) (.cst (.int 300) 88343744) 88278208) (.cons (.cst (.int 3) 88425856) (.cons (.cst (.bytes [99,111,110,102]) 88475584) (.cons (.cst (.int 200) 88623360) (.cons (.prim .tuple (.cons (.loc 7 88804352) (.nil)) 88705728 88706112) (.nil)))))) 88263808) 88149120) (b_law_0_11)
noncomputable def b_law_0_9:ASs:=.cons (.for (.loc 8 50463424) (.prim .range (.cons (.bin .Add (.cst (.int 1) 50677120) (.bin .Mod (.loc 2 50742912) (.cst (.int 4) 50808704) 50743168) 50677632) (.nil)) 50578688 50579392) (b_law_3_0) 50401096) (b_law_0_10)
noncomputable def b_law_0_8:ASs:=.cons (.asg (.t0 (.loc 7 46203392)) (.lst (.nil) 46318400) 46203712) (b_law_0_9)
noncomputable def b_law_0_7:ASs:=.cons (.asg (.t0 (.loc 6 42009152)) (.lst (.nil) 42140544) 42009472) (b_law_0_8)
noncomputable def b_law_0_6:ASs:=.cons (.asg (.t0 (.loc 5 37814912)) (.lst (.nil) 37962688) 37815232) (b_law_0_7)
noncomputable def b_law_0_5:ASs:=.cons (.asg (.t0 (.cel 4 33620736)) (.lst (.nil) 33801280) 33621056) (b_law_0_6)
noncomputable def b_law_0_4:ASs:=.cons (.ite (.cmp .Eq (.bin .Mod (.bin .FloorDiv (.loc 2 25281024) (.cst (.int 1440) 25363456) 25281536) (.cst (.int 2) 25478400) 25281792) (.cst (.int 1) 25560640) 25282112) (b_law_2_0) (.nil) 25232897) (b_law_0_5)
noncomputable def b_law_0_3:ASs:=.cons (.asg (.t0 (.loc 3 21037696)) (.lst (.cons (.bin .Add (.cst (.int 2) 21201856) (.bin .Mod (.bin .FloorDiv (.loc 2 21267648) (.cst (.int 4) 21349888) 21267968) (.cst (.int 9) 21415680) 21268224) 21202688) (.cons (.bin .Add (.bin .Add (.cst (.int 3) 21465024) (.bin .Mod (.bin .FloorDiv (.loc 2 21530816) (.cst (.int 4) 21613056) 21531136) (.cst (.int 9) 21678848) 21531392) 21465856) (.bin .Mod (.bin .FloorDiv (.loc 2 21744640) (.cst (.int 36) 21826944) 21745024) (.cst (.int 40) 21909184) 21745344) 21466816) (.nil))) 21188352) 21040896) (b_law_0_4)
noncomputable def b_law_0_2:ASs:=.cons (.asg (.t0 (.loc 2 16843072)) (.call 64 (.cons (.loc 1 17073536) (.cons (.cst (.int 0) 17172032) (.nil))) 16909376 16909952) 16844416) (b_law_0_3)
noncomputable def b_law_0_1:ASs:=.cons (.ite (.cmp .Eq (.prim .len (.cons (.loc 1 8569792) (.nil)) 8503936 8504320) (.cst (.int 0) 8717632) 8504640) (b_law_1_0) (.nil) 8455297) (b_law_0_2)
noncomputable def b_law_0_0:ASs:=.cons (.asg (.t0 (.loc 1 4260352)) (.comp ["x"] [(".0",.local),("x",.local)] [] (.loc 0 4638464) (.bin .Mod (.loc 0 4391744) (.cst (.int 999983) 4457856) 4392320) (.slc (.loc 0 4721024) (.abs) (.cst (.int 12) 4852352) 4835968 4721344) (.abs) 4377344) 4262656) (b_law_0_1)
noncomputable def fd_law:FD:=⟨471,["script","nums","a","limits","contents","checks","infos","rows","run","x","size","head","manifesto","z","boxes","cells","faults","kept","i","w","turn"],1,[],b_law_0_0⟩
noncomputable def nmL:List String:=["","__init__","BadOption","ShortOctets","Corrupt","MAX_64","write_groups","read_groups","MAX_32","read_varint32","CHECK_CRC","crc32c","mask","CHECK_SUM","Cursor","varint","MAX_SEQ","lengthed","MOST_LEVELS","fixed32","RunInfo","done","Manifesto","data","at","read_varint","read_fixed32","read_lengthed","left","parts","put_varint","put_fixed32","put_varint32","level","size","check","smallest","largest","checksum","index","term","conf_octets","last_seq","runs","row","Sink","manifesto","piece_limit","held","first_hole","missing","lay","fits","_law_hole","whole","_law_stretches","take","_law_spoil","_law_take","_law_gather","_law_sum","_law_fill","_law_asked","_law_same","_law_draw","encode","decode_manifesto","_law_fits","Inbox","_law_deed","_law_ended","law","KeepError","StoreError"]
noncomputable abbrev i_BadOption:Nat:=2
noncomputable abbrev i_ShortOctets:Nat:=3
noncomputable abbrev i_Corrupt:Nat:=4
noncomputable abbrev i_MAX_64:Nat:=5
noncomputable abbrev i_write_groups:Nat:=6
noncomputable abbrev i_read_groups:Nat:=7
noncomputable abbrev i_MAX_32:Nat:=8
noncomputable abbrev i_read_varint32:Nat:=9
noncomputable abbrev i_CHECK_CRC:Nat:=10
noncomputable abbrev i_crc32c:Nat:=11
noncomputable abbrev i_mask:Nat:=12
noncomputable abbrev i_CHECK_SUM:Nat:=13
noncomputable abbrev i_Cursor:Nat:=14
noncomputable abbrev i_varint:Nat:=15
noncomputable abbrev i_MAX_SEQ:Nat:=16
noncomputable abbrev i_lengthed:Nat:=17
noncomputable abbrev i_MOST_LEVELS:Nat:=18
noncomputable abbrev i_fixed32:Nat:=19
noncomputable abbrev i_RunInfo:Nat:=20
noncomputable abbrev i_done:Nat:=21
noncomputable abbrev i_Manifesto:Nat:=22
noncomputable abbrev i_data:Nat:=23
noncomputable abbrev i_at:Nat:=24
noncomputable abbrev i_read_varint:Nat:=25
noncomputable abbrev i_read_fixed32:Nat:=26
noncomputable abbrev i_read_lengthed:Nat:=27
noncomputable abbrev i_left:Nat:=28
noncomputable abbrev i_parts:Nat:=29
noncomputable abbrev i_put_varint:Nat:=30
noncomputable abbrev i_put_fixed32:Nat:=31
noncomputable abbrev i_put_varint32:Nat:=32
noncomputable abbrev i_level:Nat:=33
noncomputable abbrev i_size:Nat:=34
noncomputable abbrev i_check:Nat:=35
noncomputable abbrev i_smallest:Nat:=36
noncomputable abbrev i_largest:Nat:=37
noncomputable abbrev i_checksum:Nat:=38
noncomputable abbrev i_index:Nat:=39
noncomputable abbrev i_term:Nat:=40
noncomputable abbrev i_conf_octets:Nat:=41
noncomputable abbrev i_last_seq:Nat:=42
noncomputable abbrev i_runs:Nat:=43
noncomputable abbrev i_row:Nat:=44
noncomputable abbrev i_Sink:Nat:=45
noncomputable abbrev i_manifesto:Nat:=46
noncomputable abbrev i_piece_limit:Nat:=47
noncomputable abbrev i_held:Nat:=48
noncomputable abbrev i_first_hole:Nat:=49
noncomputable abbrev i_missing:Nat:=50
noncomputable abbrev i_lay:Nat:=51
noncomputable abbrev i_fits:Nat:=52
noncomputable abbrev i_law_hole:Nat:=53
noncomputable abbrev i_whole:Nat:=54
noncomputable abbrev i_law_stretches:Nat:=55
noncomputable abbrev i_take:Nat:=56
noncomputable abbrev i_law_spoil:Nat:=57
noncomputable abbrev i_law_take:Nat:=58
noncomputable abbrev i_law_gather:Nat:=59
noncomputable abbrev i_law_sum:Nat:=60
noncomputable abbrev i_law_fill:Nat:=61
noncomputable abbrev i_law_asked:Nat:=62
noncomputable abbrev i_law_same:Nat:=63
noncomputable abbrev i_law_draw:Nat:=64
noncomputable abbrev i_encode:Nat:=65
noncomputable abbrev i_decode_manifesto:Nat:=66
noncomputable abbrev i_law_fits:Nat:=67
noncomputable abbrev i_Inbox:Nat:=68
noncomputable abbrev i_law_deed:Nat:=69
noncomputable abbrev i_law_ended:Nat:=70
noncomputable abbrev i_law:Nat:=71
noncomputable abbrev i_KeepError:Nat:=72
noncomputable abbrev i_StoreError:Nat:=73
noncomputable def rows:List FRow:=[⟨0,6,89,fd_write_groups⟩,
 ⟨0,7,96,fd_read_groups⟩,
 ⟨0,30,103,fd_put_varint⟩,
 ⟨0,25,110,fd_read_varint⟩,
 ⟨0,32,117,fd_put_varint32⟩,
 ⟨0,9,124,fd_read_varint32⟩,
 ⟨0,31,131,fd_put_fixed32⟩,
 ⟨0,26,138,fd_read_fixed32⟩,
 ⟨0,27,145,fd_read_lengthed⟩,
 ⟨0,38,174,fd_checksum⟩,
 ⟨0,66,413,fd_decode_manifesto⟩,
 ⟨0,51,420,fd_lay⟩,
 ⟨14,1,189,fd_Cursor_init⟩,
 ⟨14,28,196,fd_Cursor_left⟩,
 ⟨14,15,203,fd_Cursor_varint⟩,
 ⟨14,19,210,fd_Cursor_fixed32⟩,
 ⟨14,17,224,fd_Cursor_lengthed⟩,
 ⟨14,21,252,fd_Cursor_done⟩,
 ⟨45,1,273,fd_Sink_init⟩,
 ⟨45,15,280,fd_Sink_varint⟩,
 ⟨45,19,287,fd_Sink_fixed32⟩,
 ⟨45,17,301,fd_Sink_lengthed⟩,
 ⟨45,21,329,fd_Sink_done⟩,
 ⟨20,1,350,fd_RunInfo_init⟩,
 ⟨20,44,357,fd_RunInfo_row⟩,
 ⟨20,52,364,fd_RunInfo_fits⟩,
 ⟨22,1,385,fd_Manifesto_init⟩,
 ⟨22,44,392,fd_Manifesto_row⟩,
 ⟨22,65,399,fd_Manifesto_encode⟩,
 ⟨68,1,434,fd_Inbox_init⟩,
 ⟨68,49,441,fd_Inbox_first_hole⟩,
 ⟨68,50,448,fd_Inbox_missing⟩,
 ⟨68,54,455,fd_Inbox_whole⟩,
 ⟨68,56,462,fd_Inbox_take⟩,
 ⟨68,43,467,fd_Inbox_runs⟩,
 ⟨68,44,474,fd_Inbox_row⟩,
 ⟨0,64,488,fd_law_draw⟩,
 ⟨0,60,495,fd_law_sum⟩,
 ⟨0,57,502,fd_law_spoil⟩,
 ⟨0,53,509,fd_law_hole⟩,
 ⟨0,55,516,fd_law_stretches⟩,
 ⟨0,63,521,fd_law_same⟩,
 ⟨0,58,528,fd_law_take⟩,
 ⟨0,61,535,fd_law_fill⟩,
 ⟨0,59,542,fd_law_gather⟩,
 ⟨0,62,547,fd_law_asked⟩,
 ⟨0,69,554,fd_law_deed⟩,
 ⟨0,67,561,fd_law_fits⟩,
 ⟨0,70,568,fd_law_ended⟩,
 ⟨0,71,573,fd_law⟩]
noncomputable def crows:List CRow:=[⟨14,255,[23,24]⟩,⟨45,332,[29]⟩,⟨20,367,[33,34,35,36,37]⟩,⟨22,402,[39,40,41,42,43]⟩,⟨68,477,[46,47,48]⟩]
noncomputable def erows:List ERow:=[⟨72,31⟩,⟨73,44⟩,⟨4,56⟩,⟨3,68⟩,⟨2,80⟩]
noncomputable def glbs:List (Nat×Int):=[(8,4294967295),(5,18446744073709551615),(10,1),(13,2),(16,72057594037927935),(18,12)]
noncomputable def subs:List (Nat×Nat):=[(72,72),(73,73),(73,72),(4,4),(4,73),(4,72),(3,3),(3,4),(3,73),(3,72),(2,2),(2,73),(2,72)]
noncomputable def nm (i:Nat):String:=nmL.getD i ""
noncomputable def NM:Nat:=nmL.length
noncomputable def T:Tab where
 glb:=glbOf glbs
 fn:=fun c f=>(rowOf rows c f).map (·.fd)
 cls:=fun c=>(crowOf crows c).isSome
 field:=fun c a=>(crowOf crows c).any fun r=>r.fields.any (Nat.beq a)
 isExc:=fun c=>(erowOf erows c).isSome
 sub:=fun a b=>subs.any fun p=>Nat.beq p.1 a&&Nat.beq p.2 b
noncomputable def fa (c f:Nat):Addr:=((rowOf rows c f).map (·.a)).getD 0
noncomputable def CA (c:Nat):Addr:=Option.casesOn (crowOf crows c) (((erowOf erows c).map (·.C)).getD 0) fun r=>r.C
end Ab
end
section
namespace Ab
open PySem
noncomputable def dp (L p:Nat):Pos:=⟨L + p / 4194304,p / 16384 % 256,L + p / 4194304 + p % 64,p / 64 % 256⟩
noncomputable def nmE (N:List String) (i p L:Nat):Expr:=.Name (Str.ofString (N.getD i "")) (dp L p)
noncomputable def gnE (i p L:Nat):Expr:=.Name (Str.ofString (nm i)) (dp L p)
noncomputable def constOf (v:AV):Const:=AV.casesOn v .none .bool .int .bytes (fun _=>.none) (fun _=>.none) (fun _=>.none)
noncomputable def Prim.name (k:Prim):String:=Prim.casesOn k "len" "bytes" "bytearray" "tuple" "sum" "min" "max" "range" "sorted"
noncomputable def LM.name (m:LM):String:=LM.casesOn m "append" "index" "pop" "reverse" "append" "extend" "join"
noncomputable def toT0 (N:List String) (L:Nat):AT0->Expr
 | .loc i p=>nmE N i p L
 | .cel i p=>nmE N i p L
 | .tup is p=>.Tuple (is.map fun x=>nmE N x.1 x.2 L) 0 (dp L p)
noncomputable def scopeOf (sc:List (String×NameKind)):List (Str×NameKind):=sc.map fun x=>(Str.ofString x.1,x.2)
noncomputable def optE (e:AE) (x:Expr):Option Expr:=bif isAbs e then none else some x
mutual
noncomputable def toE (L:Nat):AE->List String->Expr
 | .cst v p,_=>.Constant (constOf v) 0 (dp L p)
 | .neg n p q,_=>.UnaryOp .USub (.Constant (.int (n:Int)) 0 (dp L p)) (dp L q)
 | .loc i p,N=>nmE N i p L
 | .cel i p,N=>nmE N i p L
 | .glb x p,_=>gnE x p L
 | .bin op l r p,N=>.BinOp (toE L l N) op (toE L r N) (dp L p)
 | .cmp op l r p,N=>.Compare (toE L l N) [op] [toE L r N] (dp L p)
 | .not e p,N=>.UnaryOp .Not (toE L e N) (dp L p)
 | .bop k es p,N=>.BoolOp (Bool.casesOn k .Or .And) (toEs L es N) (dp L p)
 | .call f es pn p,N=>.Call (gnE f pn L) (toEs L es N) [] (dp L p)
 | .new c es pn p,N=>.Call (gnE c pn L) (toEs L es N) [] (dp L p)
 | .prim k es pn p,N=>.Call (.Name (Str.ofString k.name) (dp L pn)) (toEs L es N) [] (dp L p)
 | .isb e pn pt p,N=>.Call (.Name "isinstance" (dp L pn)) [toE L e N,.Name "bytes" (dp L pt)] [] (dp L p)
 | .meth o m es pa p,N=>.Call (.Attribute (toE L o N) (Str.ofString (nm m)) (dp L pa)) (toEs L es N) [] (dp L p)
 | .lmeth o m es pa p,N=>.Call (.Attribute (toE L o N) (Str.ofString m.name) (dp L pa)) (toEs L es N) [] (dp L p)
 | .attr o a p,N=>.Attribute (toE L o N) (Str.ofString (nm a)) (dp L p)
 | .sub o i p,N=>.Subscript (toE L o N) (toE L i N) (dp L p)
 | .slc o lo hi ps p,N=>.Subscript (toE L o N) (.Slice (optE lo (toE L lo N)) (optE hi (toE L hi N)) none (dp L ps)) (dp L p)
 | .abs,_=>.Tuple [] 0 (dp L 0)
 | .lst es p,N=>.List (toEs L es N) (dp L p)
 | .tup es p,N=>.Tuple (toEs L es N) 0 (dp L p)
 | .comp ns sc _ tgt elt it cond p,N=>.ListComp (toE L elt ns) [⟨toT0 ns L tgt,toE L it N,(optE cond (toE L cond ns)).toList,0⟩] ⟨.function,scopeOf sc,false,false,[]⟩ (dp L p)
termination_by structural e=>e
noncomputable def toEs (L:Nat):AEs->List String->List Expr
 | .nil,_=>[]
 | .cons e es,N=>toE L e N::toEs L es N
termination_by structural es=>es
end
noncomputable def toFs (L:Nat) (N:List String):AFs->List Expr
 | .nil=>[]
 | .txt s p r=>.Constant (.str (Str.ofString s)) 0 (dp L p)::toFs L N r
 | .fmt e p r=>.FormattedValue (toE L e N) (-1) none (dp L p)::toFs L N r
noncomputable def toT (L:Nat) (N:List String):AT->Expr
 | .t0 t=>toT0 N L t
 | .attr o a p=>.Attribute (toE L o N) (Str.ofString (nm a)) (dp L p)
 | .sub o i p=>.Subscript (toE L o N) (toE L i N) (dp L p)
noncomputable def toH (L:Nat) (h:HRow):ExceptHandler :=
 .ExceptHandler (some (gnE h.c h.pn L)) none [.Return (some (.Tuple [.Constant (.int (h.i:Int)) 0 (dp L h.pi),.List [] (dp L h.pl)] 0 (dp L h.pt))) (dp L h.pr)] (dp L h.p)
mutual
noncomputable def toS (L:Nat) (N:List String):AS->Stmt
 | .expr e p=>.Expr (toE L e N) (dp L p)
 | .ret e p=>.Return (some (toE L e N)) (dp L p)
 | .ret0 p=>.Return none (dp L p)
 | .asg t e p=>.Assign [toT L N t] (toE L e N) (dp L p)
 | .aug i op e pn p=>.AugAssign (nmE N i pn L) op (toE L e N) (dp L p)
 | .augAttr i a op e pn pa p=>.AugAssign (.Attribute (nmE N i pn L) (Str.ofString (nm a)) (dp L pa)) op (toE L e N) (dp L p)
 | .ite c b o p=>.If (toE L c N) (toSs L N b) (toSs L N o) (dp L p)
 | .whl c b p=>.While (toE L c N) (toSs L N b) [] (dp L p)
 | .for t it b p=>.For (toT0 N L t) (toE L it N) (toSs L N b) [] (dp L p)
 | .raise c s fs ps pn pc p=>.Raise (some (.Call (gnE c pn L) [Option.casesOn s (.JoinedStr (toFs L N fs) (dp L ps)) fun x=>.Constant (.str (Str.ofString x)) 0 (dp L ps)] [] (dp L pc))) none (dp L p)
 | .try b hs p=>.Try (toSs L N b) (hs.map (toH L)) [] [] (dp L p)
termination_by structural s=>s
noncomputable def toSs (L:Nat) (N:List String):ASs->List Stmt
 | .nil=>[]
 | .cons s ss=>toS L N s::toSs L N ss
termination_by structural ss=>ss
end
abbrev Sc:=List (Str×NameKind)
noncomputable def isK (sc:Sc) (x:String) (k:NameKind):Bool:=sc.lookup (Str.ofString x)==some k
noncomputable def slotK (N:List String) (sc:Sc) (i:Nat) (k:NameKind):Bool:=Nat.blt i N.length&&isK sc (N.getD i "") k
noncomputable def slotC (N:List String) (sc:Sc) (i:Nat):Bool:=Nat.blt i N.length&&(isK sc (N.getD i "") .cell || isK sc (N.getD i "") .free)
noncomputable def isG (sc:Sc) (i:Nat):Bool:=isK sc (nm i) .globalImplicit&&(Str.ofString (nm i) != "__debug__")
noncomputable def AEs.len (es:AEs):Nat:=AEs.rec (motive_1:=fun _=>Unit) (motive_2:=fun _=>Nat) (fun _ _=>()) (fun _ _ _=>()) (fun _ _=>()) (fun _ _=>()) (fun _ _=>()) (fun _ _ _ _ _ _=>()) (fun _ _ _ _ _ _=>()) (fun _ _ _=>()) (fun _ _ _ _=>()) (fun _ _ _ _ _=>()) (fun _ _ _ _ _=>()) (fun _ _ _ _ _=>()) (fun _ _ _ _ _=>()) (fun _ _ _ _ _ _ _=>()) (fun _ _ _ _ _ _ _=>()) (fun _ _ _ _=>()) (fun _ _ _ _ _=>()) (fun _ _ _ _ _ _ _ _=>()) () (fun _ _ _=>()) (fun _ _ _=>()) (fun _ _ _ _ _ _ _ _ _ _ _=>()) 0 (fun _ _ _ n=>n+1) es
noncomputable def lenOk (es:AEs):Bool:=Nat.ble es.len 20
noncomputable def notSup (o:AE):Bool:=match o with
 | .call _ .nil _ _=>false
 | .new _ .nil _ _=>false
 | .prim _ .nil _ _=>false
 | _=>true
noncomputable def lineOk (L pa p:Nat):Bool:=Nat.beq (dp L pa).endLine (dp L p).line
noncomputable def isCmp (e:AE):Bool:=match e with
 | .comp ..=>true
 | _=>false
noncomputable def okT0 (N:List String) (sc:Sc) (t:AT0):Bool:=match t with
 | .loc i _=>slotK N sc i .local
 | .cel i _=>slotK N sc i .cell
 | .tup is _=>Nat.ble 2 is.length&&Nat.ble is.length 8&&is.all fun x=>slotK N sc x.1 .local
noncomputable def compSc (sc inner:Sc):Sc:=inner.map fun x=>if x.2==.free&&sc.lookup x.1==some .cell then (x.1,.cell) else x
noncomputable def capsOk (N:List String) (sc:Sc) (names:List String) (inner:Sc) (caps:List (Nat×Nat)):Bool :=
 (List.range names.length).all fun j=>match caps.filter (·.1==j) with
   | []=>isK inner (names.getD j "") .local
   | [(_,i)]=>isK inner (names.getD j "") .free&&slotC N sc i&&(Str.ofString (N.getD i "")==Str.ofString (names.getD j ""))
   | _=>false
noncomputable def okC (N:List String) (sc:Sc) (ns:List String) (inner:Sc) (caps:List (Nat×Nat)) (tgt:AT0):Bool :=
 decide ns.Nodup&&ns.all (fun x=>(Str.ofString x != "__debug__")&&(Str.ofString x != "__classdict__"))&&inner.all (fun x=>x.2 != .cell)&&capsOk N sc ns inner caps&&decide ((inner.map (·.1)).Nodup)&&inner.all (fun p=>p.2 != .free || ns.any (fun x=>Str.ofString x==p.1)) &&
  (match tgt with|.cel ..=>false|_=>true)&&okT0 ns (compSc sc inner) tgt
noncomputable def okCst (v:AV):Bool:=AV.casesOn v true (fun _=>true) (fun _=>true) (fun b=>Nat.ble b.length 1000) (fun _=>false) (fun _=>false) (fun _=>false)
mutual
noncomputable def okE (L:Nat):AE->List String->Sc->Bool
 | .cst v _,_,_=>okCst v
 | .neg _ _ _,_,_=>true
 | .loc i _,N,sc=>slotK N sc i .local
 | .cel i _,N,sc=>slotC N sc i
 | .glb x _,_,sc=>isG sc x
 | .bin _ l r _,N,sc=>okE L l N sc&&okE L r N sc
 | .cmp _ l r _,N,sc=>okE L l N sc&&okE L r N sc
 | .not e _,N,sc=>okE L e N sc
 | .bop _ es _,N,sc=>okEs L es N sc
 | .call f es _ _,N,sc=>isG sc f&&lenOk es&&okEs L es N sc
 | .new c es _ _,N,sc=>isG sc c&&lenOk es&&okEs L es N sc
 | .prim k es _ _,N,sc=>isK sc k.name .globalImplicit&&lenOk es&&okEs L es N sc
 | .isb e _ _ _,N,sc=>isK sc "isinstance" .globalImplicit&&isK sc "bytes" .globalImplicit&&okE L e N sc
 | .meth o _ es pa p,N,sc=>lineOk L pa p&&notSup o&&lenOk es&&okE L o N sc&&okEs L es N sc
 | .lmeth o _ es pa p,N,sc=>lineOk L pa p&&notSup o&&lenOk es&&okE L o N sc&&okEs L es N sc
 | .attr o _ _,N,sc=>notSup o&&okE L o N sc
 | .sub o i _,N,sc=>okE L o N sc&&okE L i N sc
 | .slc o lo hi _ _,N,sc=>okE L o N sc&&(isAbs lo || okE L lo N sc)&&(isAbs hi || okE L hi N sc)
 | .abs,_,_=>false
 | .lst es _,N,sc=>lenOk es&&okEs L es N sc
 | .tup es _,N,sc=>lenOk es&&okEs L es N sc
 | .comp ns s caps tgt elt it cond _,N,sc=>okE L it N sc&&okC N sc ns (scopeOf s) caps tgt&&okE L elt ns (compSc sc (scopeOf s))&&(isAbs cond || okE L cond ns (compSc sc (scopeOf s)))
termination_by structural e=>e
noncomputable def okEs (L:Nat):AEs->List String->Sc->Bool
 | .nil,_,_=>true
 | .cons e es,N,sc=>okE L e N sc&&okEs L es N sc
termination_by structural es=>es
end
end Ab
end
section
namespace Ab
open PySem PySem.W PyProof.Rows
abbrev Reg:=List (Addr×Addr)
structure Gx where
 prog:Program
 w:World
 B:Heap
 K:Frag
 mg:Str->Option Value
 mb:Str->Option Value
structure Fx where
 env:Env
 names:List String
 cur:List Addr
 fs:List Addr
 chain:List Env
structure Cx where
 G:Gx
 A:Around
 X:Fx
abbrev Fx.own (X:Fx):List Addr:=X.cur++X.fs
inductive VRel (h:Heap) (R:Reg):Value->AV->Prop where
 | none:VRel h R .none .none
 | bool (b:Bool):VRel h R (.bool b) (.bool b)
 | int (i:Int) (t:Tok):VRel h R (.int i t) (.int i)
 | bytes (b:List UInt8) (t:Tok) (z:b.length<=LIM):VRel h R (.bytes b.toArray t) (.bytes b)
 | tup {a:Addr} {vs:List Value} {as:List AV}:h.TupAt a vs->vs.length=as.length->as.length<=LIM →
   (∀ (i:Nat) (v:Value) (w:AV),vs[i]?=some v->as[i]?=some w->VRel h R v w)->VRel h R (.ref a) (.tup as)
 | ref {l:Nat} {p:Addr×Addr}:R[l]?=some p->VRel h R (.ref p.1) (.ref l)
 | rng {a:Addr} {n:Nat} {t u v:Tok}:n<=LIM->IsRange h a 0 n 1 t u v->VRel h R (.ref a) (.rng n)
structure VRels (h:Heap) (R:Reg) (vs:List Value) (as:List AV):Prop where
 len:vs.length=as.length
 ix:∀ (i:Nat) (v:Value) (w:AV),vs[i]?=some v->as[i]?=some w->VRel h R v w
inductive TupV (h:Heap) (R:Reg) (v:Value) (as:List AV):Prop
 | mk (a:Addr) (vs:List Value) (e:v=.ref a) (t:h.TupAt a vs) (z:as.length<=LIM) (r:VRels h R vs as)
inductive RefV (R:Reg) (v:Value) (l:Nat):Prop
 | mk (a b:Addr) (e:v=.ref a) (g:R[l]?=some (a,b))
inductive RngV (h:Heap) (v:Value) (n:Nat):Prop
 | mk (a:Addr) (t u w:Tok) (e:v=.ref a) (z:n<=LIM) (r:IsRange h a 0 n 1 t u w)
section
variable {h:Heap} {R:Reg} {v:Value}
theorem VRel.none_v (r:VRel h R v .none):v=.none:=by cases r;rfl
theorem VRel.bool_v {b:Bool} (r:VRel h R v (.bool b)):v=.bool b:=by cases r;rfl
theorem VRel.int_v {i:Int} (r:VRel h R v (.int i)):∃ t,v=.int i t:=by cases r;exact ⟨_,rfl⟩
theorem VRel.bytes_v {b:List UInt8} (r:VRel h R v (.bytes b)):∃ t,v=.bytes b.toArray t/\b.length<=LIM:=by cases r;exact ⟨_,rfl,‹_›⟩
theorem VRel.tup_v {as:List AV} (r:VRel h R v (.tup as)):TupV h R v as:=by cases r with|tup t l z k=>exact ⟨_,_,rfl,t,z,l,k⟩
theorem VRel.ref_v {l:Nat} (r:VRel h R v (.ref l)):RefV R v l:=by cases r with|ref e=>exact ⟨_,_,rfl,e⟩
theorem VRel.rng_v {n:Nat} (r:VRel h R v (.rng n)):RngV h v n:=by cases r with|rng z e=>exact ⟨_,_,_,_,rfl,z,e⟩
theorem VRel.mkRef {l:Nat} {a b:Addr} (e:R[l]?=some (a,b)):VRel h R (.ref a) (.ref l):=.ref e
theorem VRel.mkTup {a:Addr} {vs:List Value} {as:List AV} (t:h.TupAt a vs) (z:as.length<=LIM) (r:VRels h R vs as):VRel h R (.ref a) (.tup as):=.tup t r.len z r.ix
end
structure FMap (h:Heap) (R:Reg) (es:List DictEntry) (fs:List (Nat×AV)):Prop where
 sm:∀ a v,a < NM->fget a fs=some v->∃ rv,getL (Str.ofString (nm a)) es=some (some rv)/\VRel h R rv v
 nn:∀ a,a < NM->fget a fs=none->getL (Str.ofString (nm a)) es=some none
 plain:es.any (·.refKey)=false
inductive LstAt (h:Heap) (R:Reg) (p:Addr×Addr) (vs:List AV):Prop
 | mk (us:List Value) (n:Nat) (e:p.1=p.2) (z:vs.length<=LIM) (g:h.get? p.2=some (listOf us.toArray n)) (r:VRels h R us vs)
structure BarAt (h:Heap) (p:Addr×Addr) (b:List UInt8):Prop where
 e:p.1=p.2
 z:b.length<=LIM
 g:h.get? p.2=some { cls:=.type "bytearray",data:=.bytearray b.toArray 0 }
structure FrzAt (h:Heap) (R:Reg) (p:Addr×Addr) (its:List Value) (vs:List AV):Prop where
 e:p.1=p.2
 z:vs.length<=LIM
 g:h.get? p.2=some (listOf its.toArray 0)
 r:VRels h R its vs
inductive InsAt (h:Heap) (R:Reg) (p:Addr×Addr) (c:Nat) (fs:List (Nat×AV)):Prop
 | mk (es:List DictEntry) (n:Nat) (g:h.get? p.1=some (instObj (CA c) p.2)) (d:h.get? p.2=some (dictOf es n)) (l:es.length=fs.length) (m:FMap h R es fs)
def ORel (h:Heap) (R:Reg) (p:Addr×Addr) (o:AObj):Prop:=AObj.casesOn o (LstAt h R p) (BarAt h p) (InsAt h R p) (FrzAt h R p)
def FrObj (o:Obj):Prop:=(∃ es n,o.data=.dict es n)\/∃ v,o.data=.cell v
inductive Owned (h:Heap) (a:Addr):Prop
 | mk (o:Obj) (g:h.get? a=some o) (f:FrObj o)
structure Sat (Γ:Cx) (R:Reg) (h:Heap) (H:AH):Prop where
 keep:∀ b o,Γ.G.B.get? b=some o->h.get? b=some o
 newR:∀ p∈R,Γ.G.B.get? p.2=none
 newC:∀ a∈Γ.X.own,Γ.G.B.get? a=none
 nodup:(R.map (·.2)++Γ.X.own).Nodup
 inj:(R.map (·.1)).Nodup
 len:R.length=H.length
 objs:∀ (i:Nat) (p:Addr×Addr) (o:AObj),R[i]?=some p->H[i]?=some o->ORel h R p o
 frs:∀ a∈Γ.X.own,Owned h a
structure Keeps9 (h:Heap) (R:Reg) (h':Heap) (R':Reg):Prop where
 tup:∀ a vs,h.TupAt a vs->h'.TupAt a vs
 rng:∀ a x y z t u v,IsRange h a x y z t u v->IsRange h' a x y z t u v
 reg:∀ (l:Nat) (p:Addr×Addr),R[l]?=some p->R'[l]?=some p
structure Step (X:Fx) (R:Reg) (h:Heap) (R':Reg) (h':Heap):Prop where
 live:∀ b,(h.get? b).isSome->(h'.get? b).isSome
 same:∀ b o,h.get? b=some o->b∉R.map (·.2)->b∉X.own->h'.get? b=some o
 prot:∀ b o,b∈X.fs->h.get? b=some o->∃ sl,h'.get? b=some { o with slots:=sl }
 ext:∃ new,R'=R++new/\∀ p∈new,h.get? p.2=none
theorem get_none {h h':Heap} (hl:∀ b,(h.get? b).isSome->(h'.get? b).isSome) {b:Addr} (e:h'.get? b=none):h.get? b=none:=by
 refine Option.not_isSome_iff_eq_none.mp fun q=>?_
 have:=hl b q
 rw [e] at this;cases this
theorem some_ne {α:Type} {x:Option α} {a:α} {P:Prop} (e:x=none) (f:x=some a):P:=nomatch e.symm.trans f
section
variable {X:Fx} {R R' R'':Reg} {h h' h'':Heap}
theorem Step.get (x:Step X R h R' h') {l:Nat} {p:Addr×Addr} (e:R[l]?=some p):R'[l]?=some p:=by
 obtain ⟨new,rfl,_⟩:=x.ext
 rw [List.getElem?_append_left (List.getElem?_eq_some_iff.mp e).1];exact e
theorem Step.trans (x:Step X R h R' h') (y:Step X R' h' R'' h''):Step X R h R'' h'' where
 live b e:=y.live b (x.live b e)
 same b o e h1 h2:=y.same b o (x.same b o e h1 h2) (fun hm=>by
  obtain ⟨new,rfl,hn⟩:=x.ext
  rw [List.map_append] at hm
  refine (List.mem_append.mp hm).elim h1 fun hm=>?_
  obtain ⟨p,hp,rfl⟩:=List.mem_map.mp hm
  exact some_ne (hn p hp) e) h2
 prot b o hb e:=(x.prot b o hb e).elim fun _ e1=>(y.prot b _ hb e1).elim fun sl e2=>⟨sl,e2⟩
 ext:=by
  obtain ⟨new,rfl,hn⟩:=x.ext
  obtain ⟨new',rfl,hn'⟩:=y.ext
  exact ⟨new++new',List.append_assoc ..,fun p hp=>(List.mem_append.mp hp).elim (hn p) fun hp=>get_none x.live (hn' p hp)⟩
theorem Step.keepAll (hk:∀ b o,h.get? b=some o->h'.get? b=some o):Step X R h R h' where
 live b e:=(Option.isSome_iff_exists.mp e).elim fun _ e=>Option.isSome_iff_exists.mpr ⟨_,hk _ _ e⟩
 same b o e _ _:=hk _ _ e
 prot b o _ e:=⟨o.slots,hk _ _ e⟩
 ext:=⟨[],(List.append_nil _).symm,fun _ hp=>nomatch hp⟩
theorem Step.refl:Step X R h R h:=.keepAll fun _ _ e=>e
theorem VRel.mono {v:Value} {w:AV} (r:VRel h R v w) (k:Keeps9 h R h' R'):VRel h' R' v w:=by
 induction r with
 | none=>exact .none
 | bool b=>exact .bool b
 | int i t=>exact .int i t
 | bytes b t z=>exact .bytes b t z
 | tup t hl z _ ih=>exact .tup (k.tup _ _ t) hl z ih
 | ref e=>exact .ref (k.reg _ _ e)
 | rng z e=>exact .rng z (k.rng _ _ _ _ _ _ _ e)
theorem VRels.mono {vs:List Value} {ws:List AV} (r:VRels h R vs ws) (k:Keeps9 h R h' R'):VRels h' R' vs ws :=
 ⟨r.len,fun i v w e1 e2=>(r.ix i v w e1 e2).mono k⟩
theorem FMap.mono {es:List DictEntry} {fs:List (Nat×AV)} (r:FMap h R es fs) (k:Keeps9 h R h' R'):FMap h' R' es fs :=
 ⟨fun a v ha e=>(r.sm a v ha e).elim fun rv x=>⟨rv,x.1,x.2.mono k⟩,r.nn,r.plain⟩
theorem ORel.mono {p:Addr×Addr} {o:AObj} (x:ORel h R p o) (k:Keeps9 h R h' R') (h1:∀ b,h.get? p.1=some b->h'.get? p.1=some b) (h2:∀ b,h.get? p.2=some b->h'.get? p.2=some b):ORel h' R' p o:=by
 cases o with
 | list vs=>obtain ⟨us,n,e,z,g,r⟩:=x;exact ⟨us,n,e,z,h2 _ g,r.mono k⟩
 | barr b=>exact ⟨x.e,x.z,h2 _ x.g⟩
 | frz its vs=>exact ⟨x.e,x.z,h2 _ x.g,x.r.mono k⟩
 | inst c f=>obtain ⟨es,n,g1,g2,l,r⟩:=x;exact ⟨es,n,h1 _ g1,h2 _ g2,l,r.mono k⟩
theorem keeps9_of (hk:∀ b o,h.get? b=some o->h'.get? b=some o) (hr:∀ (l:Nat) (p:Addr×Addr),R[l]?=some p->R'[l]?=some p):Keeps9 h R h' R' :=
 ⟨fun _ _ ⟨o,n,e,r⟩=>⟨o,n,hk _ _ e,r⟩,fun _ _ _ _ _ _ _ r=>hk _ _ r,hr⟩
theorem keeps9_h (hk:∀ b o,h.get? b=some o->h'.get? b=some o):Keeps9 h R h' R:=keeps9_of hk fun _ _ e=>e
theorem get_app {l:Nat} {p:Addr×Addr} {r:Reg} (e:R[l]?=some p):(R++r)[l]?=some p:=by
 rw [List.getElem?_append_left (List.getElem?_eq_some_iff.mp e).1];exact e
theorem get_last {p:Addr×Addr}:(R++[p])[R.length]?=some p:=by
 rw [List.getElem?_append_right (Nat.le_refl _),Nat.sub_self];rfl
theorem keeps9_app {r:Reg} (hk:∀ b o,h.get? b=some o->h'.get? b=some o):Keeps9 h R h' (R++r):=keeps9_of hk fun _ _ e=>get_app e
theorem VRels.nil:VRels h R [] []:=⟨rfl,fun _ _ _ e=>nomatch e⟩
theorem VRels.cons {v:Value} {a:AV} {vs:List Value} {as:List AV} (x:VRel h R v a) (y:VRels h R vs as):VRels h R (v::vs) (a::as) :=
 ⟨congrArg (·+1) y.len,fun i=>match i with
  | 0=>fun _ _ e1 e2=>Option.some.inj e1▸Option.some.inj e2▸x
  | i+1=>y.ix i⟩
theorem VRels.tail {v:Value} {a:AV} {vs:List Value} {as:List AV} (x:VRels h R (v::vs) (a::as)):VRels h R vs as:=⟨Nat.succ.inj x.len,fun i=>x.ix (i+1)⟩
inductive ConsV (h:Heap) (R:Reg) (vs:List Value) (a:AV) (as:List AV):Prop
 | mk (v:Value) (us:List Value) (e:vs=v::us) (x:VRel h R v a) (r:VRels h R us as)
theorem VRels.inv {vs:List Value} {a:AV} {as:List AV} (x:VRels h R vs (a::as)):ConsV h R vs a as:=by
 cases vs with
 | nil=>exact nomatch x.len
 | cons v us=>exact ⟨v,us,rfl,x.ix 0 v a rfl rfl,x.tail⟩
theorem VRels.inv0 {vs:List Value} (x:VRels h R vs []):vs=[]:=List.length_eq_zero_iff.mp x.len
theorem VRels.inv1 {vs:List Value} {a:AV} (x:VRels h R vs [a]):∃ v,vs=[v]/\VRel h R v a:=by
 obtain ⟨v,us,rfl,y,r⟩:=x.inv
 obtain rfl:=r.inv0
 exact ⟨v,rfl,y⟩
theorem VRels.app {vs:List Value} {as:List AV} (x:VRels h R vs as) {us:List Value} {bs:List AV} (y:VRels h R us bs):VRels h R (vs++us) (as++bs):=by
 induction as generalizing vs with
 | nil=>obtain rfl:=x.inv0;exact y
 | cons a as ih=>obtain ⟨v,us,rfl,z,r⟩:=x.inv;exact .cons z (ih r)
theorem VRels.rep {v:Value} {a:AV} (x:VRel h R v a):∀ n,VRels h R (List.replicate n v) (List.replicate n a)
 | 0=>.nil
 | n+1=>.cons x (VRels.rep x n)
theorem VRels.get {vs:List Value} {as:List AV} (x:VRels h R vs as) {i:Nat} {a:AV} (e:as[i]?=some a):∃ v,vs[i]?=some v/\VRel h R v a :=
 have hi:i < vs.length:=x.len▸(List.getElem?_eq_some_iff.mp e).1
 ⟨vs[i],List.getElem?_eq_getElem hi,x.ix _ _ _ (List.getElem?_eq_getElem hi) e⟩
end
end Ab
end
section
namespace Ab
open PySem PySem.W PySem.Calls PyProof.Rows
open PySem.Sem (wp)
def okCode:Code->Bool
 | .builtin id _=>!(["bytearray.__contains__","bytearray.__mod__","bytearray.__rmod__","_struct.pack_into.held","bytearray.find.held"]++Builtin.Bytes.decodersThatHold).contains id
 | _=>true
def Zc (l:List (Code×Pos)):Prop:=∀ c∈l,okCode c.1=true
def Zx (Γ:Ctx):Prop:=okCode Γ.code=true/\Zc Γ.below
def wpP {α:Type} (M:Model) (A:Around) (t:Sem α) (Q:α->Shared->Prop) (E:Value->Shared->Prop) (s:Shared):Prop :=
 ∀ Γ p,Γ.In A->Zx Γ->wp M Γ t (fun a _ s'=>Q a s') (fun e _ s'=>E e s') p s
def codeP (M:Model) (A:Around) (c:Code) (R:Result->Shared->Prop) (s:Shared):Prop :=
 ∀ Γ p,Γ.code=c->Γ.Below A->Zc Γ.below->wpCode M Γ R p s
section
variable {α β:Type} {M:Model} {A:Around} {E:Value->Shared->Prop} {s:Shared}
theorem wpP_of {t:Sem α} {Q:α->Shared->Prop} (h:wpAny M A t Q E s):wpP M A t Q E s:=fun Γ p hΓ _=>h Γ p hΓ
theorem codeP_of {c:Code} {R:Result->Shared->Prop} (h:codeAny M A c R s):codeP M A c R s:=fun Γ p hc hΓ _=>h Γ p hc hΓ
theorem wpP_pure {a:α} {Q:α->Shared->Prop} (h:Q a s):wpP M A (pure a) Q E s:=fun _ _ _ _=>h
theorem wpP_throw {e:Value} {Q:α->Shared->Prop} (h:E e s):wpP M A (throw e:Sem α) Q E s:=fun _ _ _ _=>h
theorem wpP_mono {t:Sem α} {Q Q':α->Shared->Prop} {E':Value->Shared->Prop} (h:wpP M A t Q E s)
  (hQ:∀ a s,Q a s->Q' a s) (hE:∀ e s,E e s->E' e s):wpP M A t Q' E' s :=
 fun Γ p hΓ hZ=>Sem.wp_mono M Γ t (fun a _ s=>hQ a s) (fun e _ s=>hE e s) p s (h Γ p hΓ hZ)
theorem wpP_bind {m:Sem α} {f:α->Sem β} {Q:β->Shared->Prop} (h:wpP M A m (fun a s'=>wpP M A (f a) Q E s') E s):wpP M A (m >>= f) Q E s:=fun Γ p hΓ hZ=>by
 rw [Sem.wp_bind']
 exact Sem.wp_mono M Γ m (fun a p' s' h'=>h' Γ p' hΓ hZ) (fun _ _ _ h'=>h') p s (h Γ p hΓ hZ)
theorem wpP_tryCatch {m:Sem α} {k:Value->Sem α} {Q:α->Shared->Prop} (h:wpP M A m Q (fun e s'=>wpP M A (k e) Q E s') s):wpP M A (tryCatch m k) Q E s:=fun Γ p hΓ hZ=>by
 rw [Sem.wp_tryCatch']
 exact Sem.wp_mono M Γ m (fun _ _ _ h'=>h') (fun e p' s' h'=>h' Γ p' hΓ hZ) p s (h Γ p hΓ hZ)
theorem wpP_onRaise {m:Sem α} {k:Value->Sem Unit} {Q:α->Shared->Prop} (h:wpP M A m Q (fun e s'=>wpP M A (k e) (fun _ s''=>E e s'') E s') s):wpP M A (m.onRaise k) Q E s:=fun Γ p hΓ hZ=>by
 rw [Sem.wp_onRaise]
 exact Sem.wp_mono M Γ m (fun _ _ _ h'=>h') (fun e p' s' h'=>h' Γ p' hΓ hZ) p s (h Γ p hΓ hZ)
theorem wpP_attempt {m:Sem α} {Q:Except Value α->Shared->Prop} (h:wpP M A m (fun a=>Q (.ok a)) (fun e=>Q (.error e)) s):wpP M A m.attempt Q E s:=fun Γ p hΓ hZ=>by
 rw [Sem.wp_attempt];exact h Γ p hΓ hZ
theorem wpP_holding {vs:List Value} {m:Sem α} {Q:α->Shared->Prop} (h:wpP M A m Q E s):wpP M A (holding vs m) Q E s:=fun Γ p hΓ hZ=>by
 rw [Sem.wp_holding];exact h Γ p hΓ hZ
theorem wpP_standAt {pos:Pos} {Q:Unit->Shared->Prop} (h:Q () s):wpP M A (standAt pos) Q E s:=fun _ _ _ _=>h
theorem codeP_mono {c:Code} {R R':Result->Shared->Prop} (h:codeP M A c R s) (hR:∀ r s,R r s->R' r s):codeP M A c R' s :=
 fun Γ p hc hΓ hZ=>wpCode_mono hR (h Γ p hc hΓ hZ)
theorem Zx.enter {Γ:Ctx} (h:Zx Γ) (c:Code) (hd:Option Value) (p:Pos):Zc (Γ.enter c hd p).below:=by
 intro x hx
 rcases List.mem_cons.mp hx with rfl|hx
 ·exact h.1
 ·exact h.2 x hx
theorem wpP_run {c:Code} {h:Option Value} {Q:Flow->Shared->Prop}
  (hc:codeP M (A.mark h) c (fun r s'=>match r with|.ok f=>Q f s'|.error e=>E e s') s) (hnb:h≠some byPass:=by intro x;cases x):wpP M A (run c h) Q E s :=
 fun Γ p hΓ hZ=>by rw [Sem.wp_run];exact hc _ p rfl (hΓ.enter c h p hnb) (hZ.enter c h p)
theorem wpP_runValue {c:Code} {Q:Value->Shared->Prop}
  (hc:codeP M A c (fun r s'=>match r with|.ok (.ret v)=>Q v s'|.ok _=>False|.error e=>E e s') s):wpP M A (runValue c) Q E s :=
 fun Γ p hΓ hZ=>by rw [Sem.wp_runValue];exact hc _ p rfl (hΓ.enter c none p (by intro x;cases x)) (hZ.enter c none p)
theorem wpP_call {f:Value} {pos:List Value} {kw:List (Str×Value)} {Q:Value->Shared->Prop}
  (hc:codeP M A (.call f ⟨pos,kw⟩) (fun r s'=>match r with|.ok (.ret v)=>Q v s'|.ok _=>False|.error e=>E e s') s):wpP M A (call f pos kw) Q E s:=wpP_runValue hc
theorem codeP_of_tree {c:Code} {R:Result->Shared->Prop}
  (h:wpP M (A.under c) (M.den c) (fun fin s'=>match fin with|.done f=>R (.ok f) s'|.again c'=>c'.quiet=true/\codeP M A c' R s') (fun e s'=>R (.error e) s') s) (hk:okCode c=true):codeP M A c R s :=
 fun Γ p hc hΓ hZ=>by
  rw [wpCode_iff_wp,hc]
  refine Sem.wp_mono M Γ _ (fun fin p' s' h'=>?_) (fun _ _ _ h'=>h') p s (h Γ p (hc▸hΓ.in) ⟨hc▸hk,hZ⟩)
  cases fin with
  | done f=>exact h'
  | again c'=>exact ⟨h'.1,h'.2 (Γ.goto c') p' rfl (hΓ.goto c') hZ⟩
theorem Zx.caller:Zx ⟨.builtin "claim.caller" {},none,none,[],none⟩:=⟨by decide +kernel,fun _ h=>nomatch h⟩
end
theorem ends_atCaller {prog:Program} {w:World} {t:Sem Fin} {s:Shared} {R:Result->Shared->Prop} (hreg:s.asleep)
  (h:wpP (model prog w) callerA t (fun fin s'=>∃ f,fin=.done f/\(R (.ok f) s'/\leftWithCleanup s'.gens=false)) (fun e s'=>R (.error e) s'/\leftWithCleanup s'.gens=false) s) :
  ∃ n r s' s'',runN (denote table) prog w n s ⟨t,.builtin "claim.caller" {},default,[]⟩=.halted (outcomeOf r) s' ∧
   schedN (denote table) prog w n (.single s ⟨t,.builtin "claim.caller" {},default,[]⟩)=.halted (outcomeOf r) s'/\s'.forget=s''.forget/\R r s'':=by
 have hw:wp (model prog w) ⟨.builtin "claim.caller" {},none,none,[],none⟩ t (Sem.finPost (model prog w) ⟨.builtin "claim.caller" {},none,none,[],none⟩ fun r s'=>R r s'/\leftWithCleanup s'.gens=false)
   (fun e _ s'=>R (.error e) s'/\leftWithCleanup s'.gens=false) default s:=by
  refine Sem.wp_mono _ _ t (fun fin p' s' h'=>?_) (fun _ _ _ h'=>h') default s (h _ default caller_in Zx.caller)
  obtain ⟨f,rfl,hf⟩:=h'
  exact hf
 obtain ⟨n,r,s₁,s₂,hs,hn,hfo,hR⟩:=wp_halts_full (M:=model prog w) (R:=R) hreg hw
 exact ⟨n,r,s₂,s₁,hn,hs,hfo,hR⟩
theorem callFromP {c:ClaimW} {tree:List Value->Sem Fin} {w:World} {s:Shared} {free:Addr->Prop} {gens:Prop} {kept:Heap->Prop} (hz:s.asleep) (hgens:s.gens=#[])
  (hspec:∀ args,c.pre args=true->WData.layableAll args=true->∀ ord:List DictEntry->List DictEntry,(∀ l,(ord l).Perm l) →
   ∃ vs s₁,layAllW c.records (classAt s.heap) w.params ord args s=some (vs,s₁) ∧
    wpP (model c.prog w) callerA (tree vs) (fun fin s'=>∃ f,fin=.done f/\(c.Ends s args vs s₁ (.ok f) s'/\s'.os=s.os/\AllBare s'.gens/\kept s'.heap))
     (fun e s'=>c.Ends s args vs s₁ (.error e) s'/\s'.os=s.os/\AllBare s'.gens/\kept s'.heap) s₁) :
  c.CallFrom (fun vs=>⟨tree vs,.builtin "claim.caller" {},default,[]⟩) w free gens kept s:=by
 intro args hpre hlay ord hord
 obtain ⟨vs,s₁,hlaid,hcode⟩:=hspec args hpre hlay ord hord
 have hal:=layAllW_rest _ _ _ hlaid
 obtain ⟨k,r,s',s'',hrun,hsched,hfo,hcase,hos,hkp⟩:=ends_atCaller (prog:=c.prog) (w:=w) (t:=tree vs) (s:=s₁) (R:=fun r s'=>c.Ends s args vs s₁ r s'/\s'.os=s.os/\kept s'.heap)
  (Shared.asleep_of_life hal.2.2.2 hz)
  (wpP_mono hcode (fun _ _ ⟨f,e,h1,h2,h3,h4⟩=>⟨f,e,⟨h1,h2,h4⟩,leftWithCleanup_false_of_bare h3⟩) fun _ _ ⟨h1,h2,h3,h4⟩=>⟨⟨h1,h2,h4⟩,leftWithCleanup_false_of_bare h3⟩)
 obtain ⟨eh,_,_,eo,_⟩:=Shared.forget_eq hfo
 have hcase:=hcase.congr eh
 have hkp:kept s'.heap:=by rw [eh];exact hkp
 rw [<-eo] at hos
 have hlife:s'.heap.life=s.heap.life:=(runN_life _ _ _ hrun).trans hal.2.2.2
 refine ⟨vs,s₁,hlaid,k,_,s',hsched,?_,(fun _ i x hx=>by rw [hgens] at hx;simp at hx),hkp,by rw [hlife],Shared.rest_eq hos⟩
 rcases hcase with ⟨v,rfl,d1,d2,d3,d4,d5⟩|⟨e,ob,cls,rfl,d1,d2,d3,d4,d5⟩
 ·exact .inl ⟨v,rfl,d1,d2,d3,fun b o y _=>d4 b o y,d5⟩
 ·exact .inr ⟨e,ob,cls,rfl,d1,d2,d3,d4,fun b o y _=>d5 b o y⟩
abbrev WalkP (q:Program) (loose:List Str) (XP:(Str->Option Value)->Heap->Prop) (YP:World->Heap->Prop) (r:RowW) (d:DefRec) (kwd:List (Str×Expr)) (run:Value->List Value->Sem Value):Prop :=
 ∀ (w:World) (s₀ s₁:Shared) (mg mb:Str->Option Value),Ground q loose r.records XP w s₀ mg mb s₁.heap->YP w s₁.heap->∀ (a:Addr) (o:Obj) (pm cd doc dV kV:Value),s₁.heap.get? a=some o →
  o.data=.func { docDef d.name d.params d.body d.scope pm cd doc with defaults:=dV,kwdefaults:=kV }->s₁.heap.CodeRec cd d.name->Dflts mg s₁.heap d.params kwd dV kV->mg d.name=some (.ref a)->s₁.gens=#[] →
  ∀ (args:List WData) (vals:List Value) (as:List Addr),r.claim.pre args=true->WData.layableAll args=true->ReadsAllW r.records (classAt s₀.heap) s₁.heap vals args as->WellAll w.params s₁.heap vals args->(∀ a∈as,(a==sysModules)=false) →
   wpP (model r.prog w) callerA (run (.ref a) vals) (fun v s'=>GoodWG r.claim (classAt s₀.heap) (ExcName.means s₀.heap) args s₁ (.ok (.ret v)) s')
    (fun e s'=>GoodWG r.claim (classAt s₀.heap) (ExcName.means s₀.heap) args s₁ (.error e) s') s₁
end Ab
namespace Hd
open Ab PySem PySem.W PySem.Calls PyProof.Rows
theorem PySem.W.holds_open {r:OpenRow} {q:Program} {loose:List Str} {Xt:Shared->Bool} {XP:(Str->Option Value)->Heap->Prop} {α:Type} {Yf:Shared->α} {Ya:World->α} {YP:World->Heap->Prop} {d:DefRec} {kwd:List (Str×Expr)} {N:Nat}
  (left:LeftO r.prog q loose Xt Yf Ya N) (hY:∀ w s,Yf s=Ya w->YP w s.heap) (hYk:∀ w h h',YP w h->(∀ b o,h.get? b=some o->h'.get? b=some o)->YP w h')
  (hX:∀ s,Xt s=true->XP (s.heap.nsMap mainGlobals) s.heap) (hXk:∀ mg h h',XP mg h->(∀ b o,h.get? b=some o->h'.get? b=some o)->XP mg h')
  (hdef:defOf q r.name=some (d,kwd)) (hp:r.prog.theDef r.name=some (d.params,d.body,d.scope)) (hk:kwWritten? d.params.kwonlyargs d.params.kw_defaults=some kwd) (hRf:∀ s,Xt s=true->RecFacts r.records s.heap) (hwr:(!r.writes || r.records.isEmpty)=true)
  (k1:r.wellSaid=true) (ok:(chainsOk q&&opensWell r.prog&&(frees r.toRowW&&r.within.isEmpty))=true) (hb:r.prog.bare) (hw:r.toRowW.promised)
  (call:WalkP q loose XP YP r.toRowW d kwd fun f vs=>PySem.call f vs):r.Holds:=by
 obtain ⟨ok,k5⟩:=Bool.and_eq_true_iff.mp ok
 obtain ⟨hch,o1⟩:=Bool.and_eq_true_iff.mp ok
 obtain ⟨k5,k6⟩:=Bool.and_eq_true_iff.mp k5
 obtain ⟨hsame,hu,ha,hap,hm⟩:=frees_parts k5
 refine ⟨k1,hw,⟨hb,o1,by show r.makers.map _=[];rw [hm];rfl⟩,hw.witness,fun w=>⟨(left.behind hX hch w).1,fun s' hs'=>?_⟩⟩
 obtain ⟨s₀,hf,hg0,s,hT,hz,hgens,hg,G00,y⟩:=(left.behind (XP:=fun mg h=>XP mg h/\RecFacts r.records h) (fun s hs=>⟨hX s hs,hRf s hs⟩) hch w).2 s' hs'
 have G0:Ground q loose [] XP w s (s.heap.nsMap mainGlobals) (s.heap.nsMap builtinsNs) s.heap:=⟨G00.T,G00.B,G00.D,G00.TE,G00.TD,G00.W,G00.X.1,G00.cls,G00.has,G00.apart,G00.once,G00.K⟩
 have RF:=G00.X.2
 have hT':=hT
 have hgens:s.gens=#[]:=Array.eq_empty_of_size_eq_zero (beq_iff_eq.mp hgens)
 have G:Ground q loose r.records XP w s _ _ s.heap:=RF.ground G0
 refine ⟨s₀,hf,hg0,s,hT,fun n hn=>?_,RF.1,RF.2.1,callFromP (c:=r.claim) hz hgens fun args hpre hlay ord hord=>?_⟩
 ·obtain rfl:n=r.name:=by split at hn <;> simp_all
  exact pinned_of_view hg G0 hdef hp hk
 ·obtain ⟨⟨vs,s₁⟩,hlaid⟩:=Option.isSome_iff_exists.mp (layAllW_isSome (P:=w.params) (ord:=ord) G.has args r.args s (pre_splitW hpre).1)
  have keeps:=layAllW_keeps _ _ _ hlaid
  have hal:=layAllW_rest _ _ _ hlaid
  obtain ⟨as,hrd,hin,hold⟩:=reads_layAllW hord _ _ _ hlaid hlay s₁.heap (fun _ _ e=>e)
  have L:Laid r.records w s s₁ args vs as:=⟨⟨ord,hord,hlaid⟩,hrd,hin,hold,keeps,hal.1.trans hgens,hal.2.2.1⟩
  have G₁:=G.keeps hXk keeps
  obtain ⟨a,o,pm,cd,doc,dV,kV,h1,h2,h3,h4,h5⟩:=G₁.fn hdef
  have h:=call w s s₁ _ _ G₁ (hYk _ _ _ (hY w s y) keeps) a o pm cd doc dV kV h2 h3 h4 h5 (defOf_name hdef▸h1) L.gens args vs as hpre hlay L.reads L.well (L.low G.low)
  have hi:=ident_freeW hu ha hap
  have hwi:r.claim.within=[]:=List.isEmpty_iff.mp k6
  refine ⟨vs,s₁,hlaid,?_⟩
  refine wpP_bind (wpP_of (wpAny_nsGet G₁.T.g ?_))
  rw [h1]
  refine fun Γ p hΓ hZ=>?_
  exact wpP_bind (wpP_mono h (fun v s' g=>wpP_pure ⟨_,rfl,have z:=g.laid (c:=r.claim) hsame hwi hi L;⟨z.1,z.2.1,z.2.2,fun q=>⟨namesKept_of hT' hg _ keeps g.2.1.old,noTable hwr q⟩⟩⟩)
   fun e s' g=>have z:=g.laid (c:=r.claim) hsame hwi hi L;⟨z.1,z.2.1,z.2.2,fun q=>⟨namesKept_of hT' hg _ keeps g.2.1.old,noTable hwr q⟩⟩) Γ p hΓ hZ
end Hd
end
section
set_option genInjectivity false
namespace Ab
open PySem PySem.W PyProof.Rows
noncomputable abbrev Cx.M (Γ:Cx):Model:=model Γ.G.prog Γ.G.w
def isCellK (k:Option NameKind):Prop:=k=some .cell\/k=some .free
inductive NsRel (h:Heap) (R:Reg) (env:Env) (names:List String) (fr:List (Option AV)):Prop
 | mk (m:Str->Option Value) (n:h.Ns env.locals m) (r:∀ (i:Nat) (x:String) (a:AV),names[i]?=some x->fr[i]?=some (some a)->env.scope.names.lookup (Str.ofString x)=some .local->∃ v,m (Str.ofString x)=some v/\VRel h R v a)
inductive CelRel (h:Heap) (R:Reg) (env:Env) (x:String) (fr:List (Option AV)) (i:Nat):Prop
 | mk (c:Addr) (o:Obj) (ov:Option Value) (e:env.cells.lookup (Str.ofString x)=some c) (g:h.get? c=some o) (d:o.data=.cell ov) (r:∀ a:AV,fr[i]?=some (some a)->∃ v,ov=some v/\VRel h R v a)
structure FrRel (h:Heap) (R:Reg) (env:Env) (names:List String) (fr:List (Option AV)):Prop where
 len:fr.length=names.length
 ns:NsRel h R env names fr
 cel:∀ (i:Nat) (x:String),names[i]?=some x->isCellK (env.scope.names.lookup (Str.ofString x))->CelRel h R env x fr i
structure FxOk (X:Fx):Prop where
 kind:X.env.scope.kind=.function
 globals:X.env.globals=mainGlobals
 builtins:X.env.builtins=builtinsNs
 nodup:X.names.Nodup
 loc:X.env.locals∈X.cur
 cells:∀ x c,X.env.cells.lookup x=some c->c∈X.own
 cellNe:∀ x c,X.env.cells.lookup x=some c->c≠X.env.locals
 cellInj:∀ x y c,X.env.cells.lookup x=some c->X.env.cells.lookup y=some c->x=y
 chainIn:∀ env∈X.chain,∀ L,env.frame=some L->L∈X.own
structure FnFx (X:Fx):Prop where
 chain:∃ outer,X.chain=X.env::outer
 frame:X.env.frame=some X.env.locals
 cellCur:∀ x c,X.env.scope.names.lookup x=some .cell->X.env.cells.lookup x=some c->c∈X.cur
inductive TrAt (h0 h:Heap) (fl:Option Addr) (e:Addr) (x:Option Value):Prop
 | no (q:x=some .none)
 | tr (T:Addr) (oT:Obj) (ts:Array Value) (q:x=some (.ref T)) (ne:T≠e) (new:h0.get? T=none) (g:h.get? T=some oT) (d:oT.data=.fields ts) (at':ts[3]?=some .none\/∃ L,fl=some L/\ts[3]?=some (rawInt L))
inductive ExcAt (h0 h:Heap) (fl:Option Addr) (x:Value) (C:Addr):Prop
 | mk (e:Addr) (oe:Obj) (vs:Array Value) (q:x=.ref e) (new:h0.get? e=none) (g:h.get? e=some oe) (c:oe.cls=.ref C) (d:oe.data=.fields vs) (l:1 < vs.size) (t:TrAt h0 h fl e vs[1]?)
theorem ExcAt.mono {h0 h1 h:Heap} {fl:Option Addr} {x:Value} {C:Addr} (hl:∀ b,(h0.get? b).isSome->(h1.get? b).isSome) (z:ExcAt h1 h fl x C):ExcAt h0 h fl x C:=by
 obtain ⟨e,oe,vs,q,n,g,c,d,l,t⟩:=z
 refine ⟨e,oe,vs,q,get_none hl n,g,c,d,l,?_⟩
 cases t with
 | no q=>exact .no q
 | tr T oT ts q ne n g d a=>exact .tr T oT ts q ne (get_none hl n) g d a
structure Pre (Γ:Cx) (s:Shared) (R:Reg) (st:St):Prop where
 gens:s.gens=#[]
 sat:Sat Γ R s.heap st.H
 fr:FrRel s.heap R Γ.X.env Γ.X.names st.fr
 ff:s.heap.FunFrames Γ.G.B Γ.X.chain
structure After (Γ:Cx) (s:Shared) (R:Reg) (s':Shared) (R':Reg) (st':St):Prop where
 eq:s'={ s with heap:=s'.heap,toks:=s'.toks }
 pre:Pre Γ s' R' st'
 step:Step Γ.X R s.heap R' s'.heap
abbrev Rl (β α:Type):=Heap->Reg->β->α->Prop
abbrev PT (α:Type):=(α->St->Prop)->KX->Prop
inductive Lift {α β:Type} (Γ:Cx) (rel:Rl β α) (s:Shared) (R:Reg) (Q:α->St->Prop) (b:β) (s':Shared):Prop
 | mk (a:α) (st':St) (R':Reg) (hq:Q a st') (af:After Γ s R s' R' st') (rl:rel s'.heap R' b a)
inductive LiftE (Γ:Cx) (s:Shared) (R:Reg) (E:KX) (x:Value) (s':Shared):Prop
 | mk (c:Nat) (st':St) (R':Reg) (he:E c st') (af:After Γ s R s' R' st') (ex:ExcAt s.heap s'.heap Γ.X.env.frame x (CA c))
def SimAt {α β:Type} (Γ:Cx) (rel:Rl β α) (t:Sem β) (p:PT α) (s:Shared) (R:Reg):Prop :=
 ∀ Q E,p Q E->wpP Γ.M Γ.A t (Lift Γ rel s R Q) (LiftE Γ s R E) s
section
variable {Γ:Cx} {s s' s'':Shared} {R R' R'':Reg} {st st' st'':St}
theorem After.trans (x:After Γ s R s' R' st') (y:After Γ s' R' s'' R'' st''):After Γ s R s'' R'' st'':=⟨by rw [y.eq,x.eq],y.pre,x.step.trans y.step⟩
section
variable {α β γ δ:Type} {rel:Rl β α} {rel':Rl δ γ} {t:Sem β} {p:PT α}
theorem Lift.after {Q:α->St->Prop} {b:β} (x:After Γ s R s' R' st') (y:Lift Γ rel s' R' Q b s''):Lift Γ rel s R Q b s'' :=
 y.casesOn fun a st R h af rl=>⟨a,st,R,h,x.trans af,rl⟩
theorem LiftE.after {E:KX} {b:Value} (x:After Γ s R s' R' st') (y:LiftE Γ s' R' E b s''):LiftE Γ s R E b s'' :=
 y.casesOn fun a st R h af rl=>⟨a,st,R,h,x.trans af,rl.mono x.step.live⟩
theorem SimAt.bind {f:β->Sem δ} {g:α->St->PT γ} (h1:SimAt Γ rel t p s R)
  (h2:∀ b s1 a st1 R1,After Γ s R s1 R1 st1->rel s1.heap R1 b a->SimAt Γ rel' (f b) (g a st1) s1 R1) :
  SimAt Γ rel' (t >>= f) (fun Q E=>p (fun a st=>g a st Q E) E) s R:=fun Q E hp =>
 wpP_bind (wpP_mono (h1 _ _ hp) (fun b s1 x=>x.casesOn fun a st1 R1 hq af rl=>wpP_mono (h2 b s1 a st1 R1 af rl Q E hq) (fun _ _=>Lift.after af) fun _ _=>LiftE.after af) fun _ _ x=>x)
theorem SimAt.holding {vs:List Value} (h:SimAt Γ rel t p s R):SimAt Γ rel (holding vs t) p s R:=fun Q E hp=>wpP_holding (h Q E hp)
theorem SimAt.standAt {q:Pos} {f:Unit->Sem β} (h:SimAt Γ rel (f ()) p s R):SimAt Γ rel (standAt q >>= f) p s R:=fun Q E hp=>wpP_bind (wpP_standAt (h Q E hp))
theorem SimAt.pureBind {b:δ} {f:δ->Sem β} (h:SimAt Γ rel (f b) p s R):SimAt Γ rel ((pure b:Sem δ) >>= f) p s R:=fun Q E hp=>wpP_bind (wpP_pure (h Q E hp))
theorem SimAt.weaken {rel'':Rl β α} (h:SimAt Γ rel t p s R) (hr:∀ h R b a,rel h R b a->rel'' h R b a):SimAt Γ rel'' t p s R :=
 fun Q E hp=>wpP_mono (h Q E hp) (fun _ _ x=>x.casesOn fun a st R h af rl=>⟨a,st,R,h,af,hr _ _ _ _ rl⟩) fun _ _ x=>x
theorem SimAt.bindSem {t:Sem δ} {f:δ->Sem β}
  (h1:∀ {Q:δ->Shared->Prop} {E:Value->Shared->Prop},(∀ d s1,After Γ s R s1 R st->Q d s1)->wpAny Γ.M Γ.A t Q E s)
  (h2:∀ d s1,After Γ s R s1 R st->SimAt Γ rel (f d) p s1 R):SimAt Γ rel (t >>= f) p s R:=fun Q E hp =>
 wpP_bind (wpP_of (h1 fun d s1 af=>wpP_mono (h2 d s1 af Q E hp) (fun _ _=>Lift.after af) fun _ _=>LiftE.after af))
theorem SimAt.and {c:Prop} (h:c->SimAt Γ rel t p s R):SimAt Γ rel t (fun Q E=>c/\p Q E) s R:=fun Q E hp=>h hp.1 Q E hp.2
theorem SimAt.no:SimAt Γ rel t (fun _ _=>False) s R:=fun _ _ hp=>hp.elim
theorem SimAt.skip {t:Sem Unit} {f:Unit->Sem β} (ht:∀ {Q:Unit->Shared->Prop} {E:Value->Shared->Prop},Q () s->wpAny Γ.M Γ.A t Q E s) (h:SimAt Γ rel (f ()) p s R):SimAt Γ rel (t >>= f) p s R :=
 fun Q E hp=>wpP_bind (wpP_of (ht (h Q E hp)))
theorem SimAt.skipPure {k:β->Sem Unit} (hk:∀ {Q:Unit->Shared->Prop} {E:Value->Shared->Prop} (v:β) (s:Shared),Q () s->wpAny Γ.M Γ.A (k v) Q E s) (h:SimAt Γ rel t p s R):SimAt Γ rel (t >>= fun v=>k v >>= fun _=>pure v) p s R :=
 fun Q E hp=>wpP_bind (wpP_mono (h Q E hp) (fun v s' hv=>wpP_bind (wpP_of (hk v s' (wpP_pure hv)))) fun _ _ x=>x)
theorem SimAt.operate {rel:Rl Value α} {vs:List Value} {t:Sem Value} (h:SimAt Γ rel t p s R):SimAt Γ rel (operate vs t) p s R:=by
 unfold PySem.operate
 exact SimAt.skipPure (t:=PySem.holding vs t) (k:=fun r=>release vs [r]) (fun v s h=>wpAny_release h) h.holding
end
theorem FrRel.keepAll {h h':Heap} {env:Env} {names:List String} {fr:List (Option AV)} (x:FrRel h R env names fr) (hk:∀ b o,h.get? b=some o->h'.get? b=some o) (k:Keeps9 h R h' R'):FrRel h' R' env names fr :=
 ⟨x.len,x.ns.casesOn fun m n r=>⟨m,n.keeps hk,fun i y a e1 e2 e3=>(r i y a e1 e2 e3).elim fun v q=>⟨v,q.1,q.2.mono k⟩⟩,
  fun i y e1 e2=>(x.cel i y e1 e2).casesOn fun c o ov e g d r=>⟨c,o,ov,e,hk _ _ g,d,fun a q=>(r a q).elim fun v q=>⟨v,q.1,q.2.mono k⟩⟩⟩
theorem Sat.keepAll {h h':Heap} {H:AH} (x:Sat Γ R h H) (hk:∀ b o,h.get? b=some o->h'.get? b=some o):Sat Γ R h' H :=
 ⟨fun b o e=>hk _ _ (x.keep b o e),x.newR,x.newC,x.nodup,x.inj,x.len,fun i p o e1 e2=>(x.objs i p o e1 e2).mono (keeps9_h hk) (fun _ e=>hk _ _ e) fun _ e=>hk _ _ e,
  fun a ha=>(x.frs a ha).casesOn fun o g f=>⟨o,hk _ _ g,f⟩⟩
theorem After.keepAll {h':Heap} {tk:Nat} (P:Pre Γ s R st) (hk:∀ b o,s.heap.get? b=some o->h'.get? b=some o):After Γ s R { s with heap:=h',toks:=tk } R st :=
 ⟨rfl,⟨P.gens,P.sat.keepAll hk,P.fr.keepAll hk (keeps9_h hk),P.ff.of_keeps fun b o e _=>⟨o,hk _ _ e,rfl⟩⟩,.keepAll hk⟩
theorem After.refl (P:Pre Γ s R st):After Γ s R s R st:=After.keepAll (tk:=s.toks) P fun _ _ e=>e
theorem After.toks {tk:Nat} (P:Pre Γ s R st):After Γ s R { s with toks:=tk } R st:=After.keepAll (h':=s.heap) P fun _ _ e=>e
theorem After.push {o:Obj} {tk:Nat} (P:Pre Γ s R st):After Γ s R { s with heap:=s.heap.push o,toks:=tk } R st:=After.keepAll P fun _ _ e=>Heap.get?_push_of_some _ e
section
variable {α β γ δ:Type} {rel:Rl β α} {rel':Rl δ γ} {t:Sem β} {p:PT α}
theorem SimAt.ok {b:β} {a:α} (P:Pre Γ s R st) (h:rel s.heap R b a):SimAt Γ rel (pure b) (fun Q _=>Q a st) s R:=fun _ _ hp=>wpP_pure ⟨a,st,R,hp,.refl P,h⟩
theorem SimAt.leaf {a:α} (P:Pre Γ s R st)
  (h:∀ {Q:β->Shared->Prop} {E:Value->Shared->Prop},(∀ b tk,rel s.heap R b a->Q b { s with toks:=tk })->wpAny Γ.M Γ.A t Q E s):SimAt Γ rel t (fun Q _=>Q a st) s R :=
 fun _ _ hp=>wpP_of (h fun b tk hb=>⟨a,st,R,hp,After.toks P,hb⟩)
theorem SimAt.rule (h:∀ (Q:α->St->Prop) (E:KX),p Q E->wpAny Γ.M Γ.A t (Lift Γ rel s R Q) (LiftE Γ s R E) s):SimAt Γ rel t p s R:=fun Q E hp=>wpP_of (h Q E hp)
theorem SimAt.map {f:β->δ} {g:α->γ} (h:SimAt Γ rel t p s R) (hg:∀ h R b a,rel h R b a->rel' h R (f b) (g a)):SimAt Γ rel' (t >>= fun v=>pure (f v)) (fun Q E=>p (fun a st=>Q (g a) st) E) s R :=
 SimAt.bind h fun _ _ _ _ _ af rl=>SimAt.ok af.pre (hg _ _ _ _ rl)
theorem SimAt.isInt {a:AV} {k:Int->PT α} (h:∀ i,a=.int i->SimAt Γ rel t (k i) s R):SimAt Γ rel t (fun Q E=>a.isInt fun i=>k i Q E) s R:=fun Q E hp=>by
 cases a with
 | int i=>exact h i rfl Q E hp
 | _=>exact hp.elim
theorem SimAt.isBool {a:AV} {k:Bool->PT α} (h:∀ i,a=.bool i->SimAt Γ rel t (k i) s R):SimAt Γ rel t (fun Q E=>a.isBool fun i=>k i Q E) s R:=fun Q E hp=>by
 cases a with
 | bool i=>exact h i rfl Q E hp
 | _=>exact hp.elim
theorem SimAt.isBytes {a:AV} {k:List UInt8->PT α} (h:∀ i,a=.bytes i->SimAt Γ rel t (k i) s R):SimAt Γ rel t (fun Q E=>a.isBytes fun i=>k i Q E) s R:=fun Q E hp=>by
 cases a with
 | bytes i=>exact h i rfl Q E hp
 | _=>exact hp.elim
theorem SimAt.isTup {a:AV} {k:List AV->PT α} (h:∀ i,a=.tup i->SimAt Γ rel t (k i) s R):SimAt Γ rel t (fun Q E=>a.isTup fun i=>k i Q E) s R:=fun Q E hp=>by
 cases a with
 | tup i=>exact h i rfl Q E hp
 | _=>exact hp.elim
theorem SimAt.isRef {a:AV} {k:Nat->PT α} (h:∀ i,a=.ref i->SimAt Γ rel t (k i) s R):SimAt Γ rel t (fun Q E=>a.isRef fun i=>k i Q E) s R:=fun Q E hp=>by
 cases a with
 | ref i=>exact h i rfl Q E hp
 | _=>exact hp.elim
theorem SimAt.nt {a:AV} {k:Nat->PT α} (h:∀ n:Nat,a=.int (n:Int)->SimAt Γ rel t (k n) s R):SimAt Γ rel t (fun Q E=>Nt a fun i=>k i Q E) s R:=fun Q E hp =>
 (Nt.elim hp).elim fun n q=>h n q.1 Q E q.2
theorem SimAt.lst {H:AH} {l:Nat} {k:List AV->PT α} (h:∀ xs,H[l]?=some (.list xs)->SimAt Γ rel t (k xs) s R):SimAt Γ rel t (fun Q E=>Lst H l fun xs=>k xs Q E) s R:=fun Q E hp =>
 hp.casesOn fun n e x=>h n e Q E x
theorem SimAt.bar {H:AH} {l:Nat} {k:List UInt8->PT α} (h:∀ xs,H[l]?=some (.barr xs)->SimAt Γ rel t (k xs) s R):SimAt Γ rel t (fun Q E=>Bar H l fun xs=>k xs Q E) s R:=fun Q E hp =>
 hp.casesOn fun n e x=>h n e Q E x
theorem SimAt.ins {H:AH} {l:Nat} {k:Nat->List (Nat×AV)->PT α} (h:∀ c fs,H[l]?=some (.inst c fs)->SimAt Γ rel t (k c fs) s R):SimAt Γ rel t (fun Q E=>Ins H l fun c fs=>k c fs Q E) s R:=fun Q E hp =>
 hp.casesOn fun c fs e x=>h c fs e Q E x
theorem SimAt.opt {γ:Type} {o:Option γ} {k:γ->PT α} (h:∀ a,o=some a->SimAt Γ rel t (k a) s R):SimAt Γ rel t (fun Q E=>optP o fun a=>k a Q E) s R:=fun Q E hp=>by
 cases o with
 | some a=>exact h a rfl Q E hp
 | none=>exact hp.elim
theorem SimAt.at {γ:Type} {xs:List γ} {n:Nat} {k:γ->PT α} (h:∀ a,xs[n]?=some a->SimAt Γ rel t (k a) s R):SimAt Γ rel t (fun Q E=>At xs n fun a=>k a Q E) s R:=fun Q E hp =>
 hp.casesOn fun a e x=>h a e Q E x
theorem SimAt.ex {γ:Type} {k:γ->PT α} (h:∀ a,SimAt Γ rel t (k a) s R):SimAt Γ rel t (fun Q E=>∃ a,k a Q E) s R:=fun Q E hp=>hp.elim fun a x=>h a Q E x
theorem SimAt.or {p1 p2:PT α} (h1:SimAt Γ rel t p1 s R) (h2:SimAt Γ rel t p2 s R):SimAt Γ rel t (fun Q E=>p1 Q E\/p2 Q E) s R:=fun Q E hp=>hp.elim (h1 Q E) (h2 Q E)
theorem SimAt.one {vs:List AV} {k:AV->PT α} (h:∀ a,vs=[a]->SimAt Γ rel t (k a) s R):SimAt Γ rel t (fun Q E=>oneP vs fun a=>k a Q E) s R:=fun Q E hp=>by
 match vs,hp with
 | [a],hp=>exact h a rfl Q E hp
theorem SimAt.two {vs:List AV} {k:AV->AV->PT α} (h:∀ a b,vs=[a,b]->SimAt Γ rel t (k a b) s R):SimAt Γ rel t (fun Q E=>twoP vs fun a b=>k a b Q E) s R:=fun Q E hp=>by
 match vs,hp with
 | [a,b],hp=>exact h a b rfl Q E hp
end
end
end Ab
end
section
namespace Ab
open PySem PySem.W PyProof.Rows
theorem ofString_inj {a b:String} (h:Str.ofString a=Str.ofString b):a=b:=by
 rw [Str.ofString_eq_toList,Str.ofString_eq_toList] at h
 refine String.toList_inj.mp ((List.map_inj_right (f:=Char.toNat) fun x y e=>Char.toNat_inj.mp e).mp ?_)
 exact congrArg Array.toList (congrArg Str.cps h)
theorem names_inj {names:List String} (hn:names.Nodup) {i j:Nat} {x:String} (h1:names[i]?=some x) (h2:names[j]?=some x):i=j :=
 (List.getElem?_inj (List.getElem?_eq_some_iff.mp h1).1 hn).mp (h1.trans h2.symm)
theorem get_size_none (h:Heap):h.get? h.objs.size=none:=Heap.get?_none_of_le (Nat.le_refl _)
theorem inj_some {α:Type} {x:Option α} {a b:α} (e:x=some a) (f:x=some b):a=b:=Option.some.inj (e.symm.trans f)
section
variable {Γ:Cx} {s s' s'':Shared} {R R' R'':Reg} {st st' st'':St} {h h':Heap} {H:AH}
theorem ORel.live1 {p:Addr×Addr} {o:AObj} (x:ORel h R p o):(h.get? p.1).isSome:=by
 cases o with
 | list vs=>obtain ⟨us,n,e,z,g,r⟩:=x;rw [e,g];rfl
 | barr b=>rw [x.e,x.g];rfl
 | frz its vs=>rw [x.e,x.g];rfl
 | inst c f=>obtain ⟨es,n,g,d,l,r⟩:=x;rw [g];rfl
inductive RegObj:Obj->Prop
 | list (us:Array Value) (n:Nat):RegObj (listOf us n)
 | barr (b:Array UInt8):RegObj { cls:=.type "bytearray",data:=.bytearray b 0 }
 | dict (es:List DictEntry) (n:Nat):RegObj (dictOf es n)
inductive RegAt (h:Heap) (a:Addr):Prop
 | mk (o:Obj) (g:h.get? a=some o) (r:RegObj o)
theorem ORel.at2 {p:Addr×Addr} {o:AObj} (x:ORel h R p o):RegAt h p.2:=by
 cases o with
 | list vs=>obtain ⟨us,n,e,z,g,r⟩:=x;exact ⟨_,g,.list _ _⟩
 | barr b=>exact ⟨_,x.g,.barr _⟩
 | frz its vs=>exact ⟨_,x.g,.list _ _⟩
 | inst c f=>obtain ⟨es,n,g,d,l,r⟩:=x;exact ⟨_,d,.dict _ _⟩
theorem Sat.rel (x:Sat Γ R h H) {l:Nat} {p:Addr×Addr} (e:R[l]?=some p):∃ o,H[l]?=some o/\ORel h R p o :=
 have hl:l < H.length:=x.len▸(List.getElem?_eq_some_iff.mp e).1
 ⟨H[l],List.getElem?_eq_getElem hl,x.objs l p _ e (List.getElem?_eq_getElem hl)⟩
theorem Sat.at (x:Sat Γ R h H) {l:Nat} {a b:Addr} {o:AObj} (g:R[l]?=some (a,b)) (e:H[l]?=some o):ORel h R (a,b) o:=x.objs l _ _ g e
theorem mem_reg {b:Addr} (hm:b∈R.map (·.2)):∃ (l:Nat) (a:Addr),R[l]?=some (a,b):=by
 obtain ⟨p,hp,rfl⟩:=List.mem_map.mp hm
 obtain ⟨i,hi⟩:=List.getElem?_of_mem hp
 exact ⟨i,p.1,hi⟩
theorem mem_snd {l:Nat} {p:Addr×Addr} (e:R[l]?=some p):p.2∈R.map (·.2):=List.mem_map.mpr ⟨p,List.mem_of_getElem? e,rfl⟩
theorem Sat.regAt (x:Sat Γ R h H) {b:Addr} (hm:b∈R.map (·.2)):RegAt h b :=
 (mem_reg hm).elim fun _ q=>q.elim fun _ e=>(x.rel e).elim fun _ q=>q.2.at2
theorem Sat.free (I:Sat Γ R h H) {b:Addr} {o:Obj} (e:h.get? b=some o) (h1:¬ RegObj o) (h2:¬ FrObj o):b∉R.map (·.2)/\b∉Γ.X.own :=
 ⟨fun hm=>(I.regAt hm).casesOn fun _ g r=>h1 (inj_some g e▸r),fun hm=>(I.frs b hm).casesOn fun _ g f=>h2 (inj_some g e▸f)⟩
theorem no_reg {o:Obj} (h1:∀ vs n,o.cls=.type "list"->o.data=.seq vs n->False) (h2:∀ b n,o.data=.bytearray b n->False) (h3:∀ es n,o.data=.dict es n->False):¬ RegObj o:=fun r=>by
 cases r with
 | list us n=>exact h1 _ _ rfl rfl
 | barr b=>exact h2 _ _ rfl
 | dict es n=>exact h3 _ _ rfl
theorem Sat.free_tup (I:Sat Γ R h H) {b:Addr} {o:Obj} {vs:Array Value} {n:Nat} (e:h.get? b=some o) (hc:o.cls=.type "tuple") (hd:o.data=.seq vs n):b∉R.map (·.2)/\b∉Γ.X.own :=
 I.free e (no_reg (fun _ _ q _=>absurd (q.symm.trans hc) (by decide)) (fun _ _ q=>nomatch q.symm.trans hd) fun _ _ q=>nomatch q.symm.trans hd)
  fun q=>q.elim (fun ⟨_,_,q⟩=>nomatch q.symm.trans hd) fun ⟨_,q⟩=>nomatch q.symm.trans hd
theorem Sat.free_fields (I:Sat Γ R h H) {b:Addr} {o:Obj} {vs:Array Value} (e:h.get? b=some o) (hd:o.data=.fields vs):b∉R.map (·.2)/\b∉Γ.X.own :=
 I.free e (no_reg (fun _ _ _ q=>nomatch q.symm.trans hd) (fun _ _ q=>nomatch q.symm.trans hd) fun _ _ q=>nomatch q.symm.trans hd)
  fun q=>q.elim (fun ⟨_,_,q⟩=>nomatch q.symm.trans hd) fun ⟨_,q⟩=>nomatch q.symm.trans hd
theorem Sat.free_plain (I:Sat Γ R h H) {b:Addr} {o:Obj} (e:h.get? b=some o) (hd:o.data=.plain):b∉R.map (·.2)/\b∉Γ.X.own :=
 I.free e (no_reg (fun _ _ _ q=>nomatch q.symm.trans hd) (fun _ _ q=>nomatch q.symm.trans hd) fun _ _ q=>nomatch q.symm.trans hd)
  fun q=>q.elim (fun ⟨_,_,q⟩=>nomatch q.symm.trans hd) fun ⟨_,q⟩=>nomatch q.symm.trans hd
theorem Sat.snd_ne (x:Sat Γ R h H) {l k:Nat} {p q:Addr×Addr} (e:R[l]?=some p) (e':R[k]?=some q) (hne:k≠l):q.2≠p.2:=fun hq =>
 have h1:(R.map (·.2))[l]?=some p.2:=by rw [List.getElem?_map,e];rfl
 have h2:(R.map (·.2))[k]?=some p.2:=by rw [List.getElem?_map,e',<-hq];rfl
 hne ((List.getElem?_inj (List.getElem?_eq_some_iff.mp h2).1 (List.nodup_append.mp x.nodup).1).mp (h2.trans h1.symm))
theorem Sat.snd_own (x:Sat Γ R h H) {l:Nat} {p:Addr×Addr} (e:R[l]?=some p) {b:Addr} (hb:b∈Γ.X.own):b≠p.2 :=
 fun q=>(List.nodup_append.mp x.nodup).2.2 p.2 (mem_snd e) b hb q.symm
theorem Step.keeps9 (x:Step Γ.X R h R' h') (I:Sat Γ R h H):Keeps9 h R h' R' where
 tup a vs:=fun ⟨o,n,e,hc,hd⟩=>have f:=I.free_tup e hc hd;⟨o,n,x.same a o e f.1 f.2,hc,hd⟩
 rng a _ _ _ _ _ _ r:=have f:=I.free_fields r rfl;x.same a _ r f.1 f.2
 reg _ _ e:=x.get e
theorem After.keeps9 (x:After Γ s R s' R' st') (P:Pre Γ s R st):Keeps9 s.heap R s'.heap R':=x.step.keeps9 P.sat
theorem none_B (x:Sat Γ R h H) {D:Addr} (e:h.get? D=none):Γ.G.B.get? D=none :=
 Option.eq_none_iff_forall_ne_some.mpr fun _ q=>some_ne e (x.keep _ _ q)
theorem Sat.newAt (x:Sat Γ R h H) {D:Addr} (e:h.get? D=none):D∉R.map (·.2)++Γ.X.own:=fun q =>
 (List.mem_append.mp q).elim (fun q=>(x.regAt q).casesOn fun _ g _=>some_ne e g) fun q=>(x.frs _ q).casesOn fun _ g _=>some_ne e g
theorem nodup_snoc {α:Type} {a b:List α} {x:α} (h:(a++b).Nodup) (hx:x∉a++b):((a++[x])++b).Nodup:=by
 rw [List.append_assoc]
 exact (List.perm_middle.nodup_iff).mpr (List.nodup_cons.mpr ⟨hx,h⟩)
theorem Sat.alloc (x:Sat Γ R h H) {a D:Addr} {o:AObj} (hk:∀ b o,h.get? b=some o->h'.get? b=some o) (hD:h.get? D=none) (ha:h.get? a=none) (ho:ORel h' (R++[(a,D)]) (a,D) o) :
  Sat Γ (R++[(a,D)]) h' (H++[o]) where
 keep b o e:=hk _ _ (x.keep b o e)
 newR p hp:=(List.mem_append.mp hp).elim (x.newR p) fun hp=>List.mem_singleton.mp hp▸none_B x hD
 newC:=x.newC
 nodup:=by rw [List.map_append];exact nodup_snoc x.nodup (x.newAt hD)
 inj:=by
  rw [List.map_append,<-List.append_nil (_++_)]
  refine nodup_snoc (by rw [List.append_nil];exact x.inj) fun q=>?_
  rw [List.append_nil] at q
  obtain ⟨p,hp,e⟩:=List.mem_map.mp q
  obtain ⟨i,hi⟩:=List.getElem?_of_mem hp
  obtain ⟨o,_,r⟩:=x.rel hi
  have:=r.live1
  rw [e,ha] at this;cases this
 len:=by rw [List.length_append,List.length_append,x.len];rfl
 objs i p o' e1 e2:=by
  by_cases hi:i < R.length
  ·rw [List.getElem?_append_left hi] at e1
   rw [List.getElem?_append_left (x.len▸hi)] at e2
   exact (x.objs i p o' e1 e2).mono (keeps9_app hk) (fun _ e=>hk _ _ e) fun _ e=>hk _ _ e
  ·have h1:=Nat.not_lt.mp hi
   have h2:=(List.getElem?_eq_some_iff.mp e1).1
   rw [List.length_append] at h2
   obtain rfl:=Nat.le_antisymm (Nat.le_of_lt_succ h2) h1
   rw [get_last] at e1
   rw [List.getElem?_append_right (x.len▸h1),x.len,Nat.sub_self] at e2
   cases e1;cases e2;exact ho
 frs b hb:=(x.frs b hb).casesOn fun o g f=>⟨o,hk _ _ g,f⟩
theorem After.alloc {tk:Nat} {a D:Addr} {o:AObj} (P:Pre Γ s R st) (hk:∀ b o,s.heap.get? b=some o->h'.get? b=some o) (hD:s.heap.get? D=none) (ha:s.heap.get? a=none)
  (ho:ORel h' (R++[(a,D)]) (a,D) o):After Γ s R { s with heap:=h',toks:=tk } (R++[(a,D)]) ⟨st.fr,st.H++[o]⟩ :=
 ⟨rfl,⟨P.gens,P.sat.alloc hk hD ha ho,P.fr.keepAll hk (keeps9_app hk),P.ff.of_keeps fun b o e _=>⟨o,hk _ _ e,rfl⟩⟩,
  fun b e=>(Option.isSome_iff_exists.mp e).elim fun _ e=>Option.isSome_iff_exists.mpr ⟨_,hk _ _ e⟩,fun b o e _ _=>hk _ _ e,fun b o _ e=>⟨o.slots,hk _ _ e⟩,⟨[(a,D)],rfl,fun p hp=>List.mem_singleton.mp hp▸hD⟩⟩
theorem After.allocList {tk:Nat} {vs:List Value} {n:Nat} {as:List AV} (P:Pre Γ s R st) (r:VRels s.heap R vs as) (z:as.length<=LIM) :
  After Γ s R { s with heap:=s.heap.push (listOf vs.toArray n),toks:=tk } (R++[(s.heap.objs.size,s.heap.objs.size)]) ⟨st.fr,st.H++[.list as]⟩ :=
 After.alloc P (fun _ _ e=>Heap.get?_push_of_some _ e) (get_size_none _) (get_size_none _) ⟨vs,n,rfl,z,Heap.get?_push_size _ rfl,r.mono (keeps9_app fun _ _ e=>Heap.get?_push_of_some _ e)⟩
theorem newRefV {h9:Heap} {a D:Addr} (P:Pre Γ s R st):VRel h9 (R++[(a,D)]) (.ref a) (.ref st.H.length):=VRel.mkRef (b:=D) (by rw [<-P.sat.len];exact get_last)
theorem Sat.upd_keeps9 (x:Sat Γ R h H) {D:Addr} (e:D∈R.map (·.2)\/D∈Γ.X.own) (hk:∀ b o,b≠D->h.get? b=some o->h'.get? b=some o):Keeps9 h R h' R where
 tup a vs:=fun ⟨o,n,g,hc,hd⟩=>have f:=x.free_tup g hc hd;⟨o,n,hk a o (fun q=>e.elim (fun e=>f.1 (q▸e)) fun e=>f.2 (q▸e)) g,hc,hd⟩
 rng a _ _ _ _ _ _ r:=have f:=x.free_fields r rfl;hk a _ (fun q=>e.elim (fun e=>f.1 (q▸e)) fun e=>f.2 (q▸e)) r
 reg _ _ e:=e
theorem Sat.other (x:Sat Γ R h H) {D:Addr} {i:Nat} {q:Addr×Addr} {o:AObj} (e:D∈R.map (·.2)\/D∈Γ.X.own) (hk:∀ b o,b≠D->h.get? b=some o->h'.get? b=some o) (e1:R[i]?=some q) (e2:H[i]?=some o) (n2:q.2≠D):ORel h' R q o:=by
 have O:=x.objs i q o e1 e2
 refine O.mono (x.upd_keeps9 e hk) (fun b g=>hk _ _ ?_ g) fun b g=>hk _ _ n2 g
 cases o with
 | list vs=>obtain ⟨us,n,e,z,g,r⟩:=O;exact e▸n2
 | barr b=>exact O.e▸n2
 | frz its vs=>exact O.e▸n2
 | inst c f=>obtain ⟨es,n,g,d,l,r⟩:=O;exact fun q'=>have f:=x.free_plain g rfl;e.elim (fun e=>f.1 (q'▸e)) fun e=>f.2 (q'▸e)
theorem Sat.upd (x:Sat Γ R h H) {l:Nat} {p:Addr×Addr} {o':AObj} (e:R[l]?=some p) (hk:∀ b o,b≠p.2->h.get? b=some o->h'.get? b=some o) (ho:ORel h' R p o'):Sat Γ R h' (H.set l o') where
 keep b o g:=hk b o (fun q=>some_ne (x.newR p (List.mem_of_getElem? e)) (q▸g)) (x.keep b o g)
 newR:=x.newR
 newC:=x.newC
 nodup:=x.nodup
 inj:=x.inj
 len:=by rw [List.length_set,x.len]
 objs i q o e1 e2:=by
  by_cases hi:i=l
  ·subst hi
   rw [List.getElem?_set_self (x.len▸(List.getElem?_eq_some_iff.mp e).1)] at e2
   cases e2;cases inj_some e e1;exact ho
  ·rw [List.getElem?_set_ne (Ne.symm hi)] at e2
   exact x.other (.inl (mem_snd e)) hk e1 e2 (x.snd_ne e e1 hi)
 frs b hb:=(x.frs b hb).casesOn fun o g f=>⟨o,hk b o (x.snd_own e hb) g,f⟩
theorem FrRel.upd {env:Env} {names:List String} {fr:List (Option AV)} {bad:Addr} (x:FrRel h R env names fr) (hk:∀ b o,b≠bad->h.get? b=some o->h'.get? b=some o) (k9:Keeps9 h R h' R')
  (hl:env.locals≠bad) (hc:∀ y c,env.cells.lookup y=some c->c≠bad):FrRel h' R' env names fr :=
 ⟨x.len,x.ns.casesOn fun m n r=>⟨m,n.elim fun o q=>q.elim fun es q=>q.elim fun ep q=>⟨o,es,ep,hk _ _ hl q.1,q.2⟩,fun i y a e1 e2 e3=>(r i y a e1 e2 e3).elim fun v q=>⟨v,q.1,q.2.mono k9⟩⟩,
  fun i y e1 e2=>(x.cel i y e1 e2).casesOn fun c o ov e g d r=>⟨c,o,ov,e,hk _ _ (hc _ _ e) g,d,fun a q=>(r a q).elim fun v q=>⟨v,q.1,q.2.mono k9⟩⟩⟩
theorem funFrames_at {B:Heap}:∀ {l:List Env},h.FunFrames B l->(∀ env∈l,∀ L,env.frame=some L->∀ o,h.get? L=some o->(∀ vs,o.data≠.fields vs)->∃ o',h'.get? L=some o'/\∀ vs,o'.data≠.fields vs)->h'.FunFrames B l
 | [],_,_=>trivial
 | env::_,⟨hk,⟨L,o,hf,hn,ho,hd⟩,hr⟩,k=>(k env (.head _) L hf o ho hd).elim fun o' q=>⟨hk,⟨L,o',hf,hn,q⟩,funFrames_at hr fun e he=>k e (.tail _ he)⟩
theorem live_of {D:Addr} {o':Obj} (hk:∀ b o,b≠D->h.get? b=some o->h'.get? b=some o) (hD:h'.get? D=some o') (b:Addr) (g:(h.get? b).isSome):(h'.get? b).isSome:=by
 by_cases hq:b=D
 ·rw [hq,hD];rfl
 ·exact (Option.isSome_iff_exists.mp g).elim fun _ g=>Option.isSome_iff_exists.mpr ⟨_,hk b _ hq g⟩
theorem After.upd {tk:Nat} {l:Nat} {p:Addr×Addr} {o':AObj} {b':Obj} (P:Pre Γ s R st) (K:FxOk Γ.X) (e:R[l]?=some p) (hk:∀ b o,b≠p.2->s.heap.get? b=some o->h'.get? b=some o) (hb:h'.get? p.2=some b') (ho:ORel h' R p o') :
  After Γ s R { s with heap:=h',toks:=tk } R ⟨st.fr,st.H.set l o'⟩ :=
 ⟨rfl,⟨P.gens,P.sat.upd e hk ho,P.fr.upd hk (P.sat.upd_keeps9 (.inl (mem_snd e)) hk) (P.sat.snd_own e (List.mem_append_left _ K.loc)) fun y c hc=>P.sat.snd_own e (K.cells y c hc),funFrames_at P.ff fun env he L hL o g hn=>⟨o,hk L o (P.sat.snd_own e (K.chainIn env he L hL)) g,hn⟩⟩,
  live_of hk hb,fun b o g h1 _=>hk b o (fun q=>h1 (q▸mem_snd e)) g,fun b o hb' g=>⟨o.slots,hk b o (P.sat.snd_own e (List.mem_append_right _ hb')) g⟩,⟨[],(List.append_nil _).symm,fun _ hp=>nomatch hp⟩⟩
theorem Sat.updCur (x:Sat Γ R h H) {D:Addr} (hD:D∈Γ.X.own) (hk:∀ b o,b≠D->h.get? b=some o->h'.get? b=some o) (hn:Owned h' D):Sat Γ R h' H where
 keep b o g:=hk b o (fun q=>some_ne (x.newC D hD) (q▸g)) (x.keep b o g)
 newR:=x.newR
 newC:=x.newC
 nodup:=x.nodup
 inj:=x.inj
 len:=x.len
 objs i q o e1 e2:=x.other (.inr hD) hk e1 e2 (Ne.symm (x.snd_own e1 hD))
 frs b hb:=by
  by_cases hq:b=D
  ·exact hq▸hn
  ·exact (x.frs b hb).casesOn fun o g f=>⟨o,hk b o hq g,f⟩
theorem FrObj.noFields {o:Obj} (f:FrObj o) (vs:Array Value):o.data≠.fields vs:=fun q=>f.elim (fun ⟨_,_,e⟩=>nomatch e.symm.trans q) fun ⟨_,e⟩=>nomatch e.symm.trans q
theorem After.frame {tk:Nat} {D:Addr} {fr':List (Option AV)} (P:Pre Γ s R st) (hD:D∈Γ.X.cur) (hk:∀ b o,b≠D->s.heap.get? b=some o->h'.get? b=some o) (hn:Owned h' D)
  (hf:FrRel h' R Γ.X.env Γ.X.names fr'):After Γ s R { s with heap:=h',toks:=tk } R ⟨fr',st.H⟩ :=
 hn.casesOn fun o' g' f' =>
 ⟨rfl,⟨P.gens,P.sat.updCur (List.mem_append_left _ hD) hk hn,hf,funFrames_at P.ff fun env he L hL o g hnf=>by
  by_cases hq:L=D
  ·exact ⟨o',hq▸g',f'.noFields⟩
  ·exact ⟨o,hk L o hq g,hnf⟩⟩,
  live_of hk g',fun b o g _ h2=>hk b o (fun q=>h2 (q▸List.mem_append_left _ hD)) g,
  fun b o hb' g=>⟨o.slots,hk b o (fun q=>(List.nodup_append.mp (List.nodup_append.mp P.sat.nodup).2.1).2.2 D hD b hb' q.symm) g⟩,⟨[],(List.append_nil _).symm,fun _ hp=>nomatch hp⟩⟩
theorem ns_owned {L:Addr} {m:Str->Option Value} (hN:h'.Ns L m):Owned h' L:=hN.elim fun o q=>q.elim fun es q=>q.elim fun ep q=>⟨o,q.1,.inl ⟨es,ep,q.2.1⟩⟩
theorem After.setLocal {tk:Nat} {i:Nat} {x:String} {v:Value} {a:AV} {m:Str->Option Value} (P:Pre Γ s R st) (K:FxOk Γ.X) (hi:Γ.X.names[i]?=some x) (hx:Γ.X.env.scope.names.lookup (Str.ofString x)=some .local)
  (hm:∀ (j:Nat) (y:String) (b:AV),Γ.X.names[j]?=some y->st.fr[j]?=some (some b)->Γ.X.env.scope.names.lookup (Str.ofString y)=some .local->∃ v,m (Str.ofString y)=some v/\VRel s.heap R v b)
  (hN:h'.Ns Γ.X.env.locals fun y=>if y=Str.ofString x then some v else m y) (hs:Heap.SameBut Γ.X.env.locals s.heap h') (r:VRel s.heap R v a) :
  After Γ s R { s with heap:=h',toks:=tk } R ⟨st.fr.set i (some a),st.H⟩:=by
 have hk:∀ b o,b≠Γ.X.env.locals->s.heap.get? b=some o->h'.get? b=some o:=fun b o hb g=>(hs.2 b hb).trans g
 have k9:=P.sat.upd_keeps9 (.inr (List.mem_append_left _ K.loc)) hk
 have hil:i < st.fr.length:=P.fr.len▸(List.getElem?_eq_some_iff.mp hi).1
 refine After.frame P K.loc hk (ns_owned hN) ⟨by rw [List.length_set];exact P.fr.len,⟨_,hN,fun j y b e1 e2 e3=>?_⟩,fun j y e1 e2=>(P.fr.cel j y e1 e2).casesOn fun c o ov e g d q=>⟨c,o,ov,e,hk _ _ (K.cellNe _ _ e) g,d,fun b hb=>?_⟩⟩
 ·by_cases hj:j=i
  ·subst hj
   cases inj_some hi e1
   rw [List.getElem?_set_self hil] at e2;cases e2
   exact ⟨v,if_pos rfl,r.mono k9⟩
  ·rw [List.getElem?_set_ne (Ne.symm hj)] at e2
   exact (hm j y b e1 e2 e3).elim fun u q=>⟨u,(if_neg fun z=>hj (names_inj K.nodup e1 (hi.trans (congrArg some (ofString_inj z).symm)))).trans q.1,q.2.mono k9⟩
 ·rw [List.getElem?_set_ne (fun hj=>by
   subst hj
   cases inj_some hi e1
   rw [hx] at e2;exact e2.elim nofun nofun)] at hb
  exact (q b hb).elim fun u q=>⟨u,q.1,q.2.mono k9⟩
theorem After.setCell {tk:Nat} {i:Nat} {x:String} {v:Value} {a:AV} {c:Addr} {o':Obj} (P:Pre Γ s R st) (K:FxOk Γ.X) (hi:Γ.X.names[i]?=some x) (hx:isCellK (Γ.X.env.scope.names.lookup (Str.ofString x)))
  (hc:Γ.X.env.cells.lookup (Str.ofString x)=some c) (hcur:c∈Γ.X.cur) (hk:∀ b o,b≠c->s.heap.get? b=some o->h'.get? b=some o) (ho:h'.get? c=some o') (hd:o'.data=.cell (some v)) (r:VRel s.heap R v a) :
  After Γ s R { s with heap:=h',toks:=tk } R ⟨st.fr.set i (some a),st.H⟩:=by
 have k9:=P.sat.upd_keeps9 (.inr (List.mem_append_left _ hcur)) hk
 have hil:i < st.fr.length:=P.fr.len▸(List.getElem?_eq_some_iff.mp hi).1
 refine After.frame P hcur hk ⟨o',ho,.inr ⟨_,hd⟩⟩ ⟨by rw [List.length_set];exact P.fr.len,P.fr.ns.casesOn fun m n q=>⟨m,n.elim fun o z=>z.elim fun es z=>z.elim fun ep z=>⟨o,es,ep,hk _ _ (fun q=>K.cellNe _ _ hc q.symm) z.1,z.2⟩,fun j y b e1 e2 e3=>?_⟩,
  fun j y e1 e2=>(P.fr.cel j y e1 e2).casesOn fun c' o ov e g d q=>?_⟩
 ·rw [List.getElem?_set_ne (fun hj=>by
   subst hj
   cases inj_some hi e1
   rw [e3] at hx;exact hx.elim nofun nofun)] at e2
  exact (q j y b e1 e2 e3).elim fun u q=>⟨u,q.1,q.2.mono k9⟩
 ·by_cases hj:j=i
  ·subst hj
   cases inj_some hi e1
   exact ⟨c,o',_,hc,ho,hd,fun b hb=>⟨v,rfl,by
    rw [List.getElem?_set_self hil] at hb;cases hb
    exact r.mono k9⟩⟩
  ·refine ⟨c',o,ov,e,hk _ _ (fun z=>hj (names_inj K.nodup e1 (hi.trans (congrArg some (ofString_inj (K.cellInj _ _ c (z▸e) hc)).symm)))) g,d,fun b hb=>?_⟩
   rw [List.getElem?_set_ne (Ne.symm hj)] at hb
   exact (q b hb).elim fun u q=>⟨u,q.1,q.2.mono k9⟩
end
end Ab
end
section
namespace Ab
open PySem PySem.W PySem.Calls PyProof.Rows
theorem mulOk {a b:Int} (ha:-BIG < a/\a < BIG) (hb:-BIG < b/\b < BIG):IntMulOk a b:=by
 have h1:Builtin.Int.intBits a<=64:=intBits_le_64 ha.1 ha.2
 have h2:Builtin.Int.intBits b<=64:=intBits_le_64 hb.1 hb.2
 have h3:(128:Int)<=(bitsLine:Int):=by decide +kernel
 unfold IntMulOk Builtin.Int.intTooBig
 rw [decide_eq_false (p:=(Builtin.Int.intBits a:Int) + (Builtin.Int.intBits b:Int)>(bitsLine:Int)) (by clear ha hb;omega),Bool.and_false]
 nofun
theorem bitAnd_nat (x y:Nat):Builtin.bitAnd x y=((x &&& y:Nat):Int):=by
 unfold Builtin.bitAnd
 rw [decide_eq_true (Int.natCast_nonneg x),decide_eq_true (Int.natCast_nonneg y)]
 rfl
theorem bitOr_nat (x y:Nat):Builtin.bitOr x y=((x ||| y:Nat):Int):=by
 have e:∀ x:Nat,¬ 0<=Builtin.bitNot (x:Int):=fun x=>by unfold Builtin.bitNot;omega
 have e3:∀ z:Int,Builtin.bitNot (Builtin.bitNot z)=z:=fun z=>by unfold Builtin.bitNot;omega
 unfold Builtin.bitOr Builtin.bitAnd
 rw [decide_eq_false (e x),decide_eq_false (e y)]
 dsimp only
 rw [e3,e3,e3]
 rfl
theorem LIM_line:LIM<=sizeLine:=by decide
theorem noPylong64 {x y:Int} (h0:0 < y) (h:y < BIG):¬ Builtin.divisionGoesByPylong x y=true:=by
 rw [PyProof.noPylong_of_log2]
 ·nofun
 ·have h:y < 18446744073709551616:=h
  have h1:y.natAbs.log2 < 64:=(Nat.log2_lt (by omega)).mpr (by omega)
  clear h;omega
theorem intBits_lt {n m:Nat} (h:Builtin.Int.intBits n<=m):n < 2 ^ m:=by
 unfold Builtin.Int.intBits at h
 by_cases hz:n=0
 ·subst hz;exact Nat.pow_pos (by decide)
 ·rw [if_neg (by simpa using hz)] at h
  exact (Nat.log2_lt hz).mp h
theorem shr_split {n m:Nat} {P:Int->Prop} (h:P ((n / 2 ^ m:Nat):Int)):((m:Int) >= (Builtin.Int.intBits n:Nat)->P (if (n:Int) < 0 then -1 else 0))/\P ((n:Int).fdiv (2 ^ (m:Int).toNat)):=by
 constructor
 ·intro hb
  rw [if_neg (by omega)]
  rw [Nat.div_eq_of_lt (intBits_lt (Int.ofNat_le.mp hb))] at h
  exact h
 ·rw [Int.fdiv_eq_ediv_of_nonneg _ (Int.le_of_lt (Int.pow_pos (by decide)))]
  rw [Int.natCast_ediv,Int.natCast_pow] at h
  exact h
section
variable {Γ:Cx} {s s' s'':Shared} {R R' R'':Reg} {st st' st'':St} {h h':Heap} {H:AH} {a b:Value} {x y:AV}
inductive IsLst (h:Heap) (R:Reg) (v:Value) (l:Nat) (xs:List AV):Prop
 | mk (a:Addr) (us:List Value) (n:Nat) (e:v=.ref a) (g:R[l]?=some (a,a)) (z:xs.length<=LIM) (i:h.get? a=some (listOf us.toArray n)) (r:VRels h R us xs)
theorem Pre.lst {v:Value} {l:Nat} {xs:List AV} (P:Pre Γ s R st) (r:VRel s.heap R v (.ref l)) (e:st.H[l]?=some (.list xs)):IsLst s.heap R v l xs:=by
 obtain ⟨a,b,rfl,g⟩:=r.ref_v
 obtain ⟨us,n,e1,z,i,r⟩:=P.sat.at g e
 obtain rfl:a=b:=e1
 exact ⟨a,us,n,rfl,g,z,i,r⟩
theorem isList {a:Addr} {us:Array Value} {n:Nat} (i:h.get? a=some (listOf us n)):h.IsList a us:=⟨_,i,rfl,n,rfl⟩
theorem VRels.line {us:List Value} {xs:List AV} (r:VRels h R us xs) (z:xs.length<=LIM):us.toArray.size<=sizeLine:=by rw [List.size_toArray,r.len];exact Nat.le_trans z LIM_line
theorem list_made {Q:KV} {tk:Nat} {us:List Value} {xs:List AV} {n:Nat} (P:Pre Γ s R st) (r:VRels s.heap R us xs) (z:xs.length<=LIM) (h:Q (.ref st.H.length) ⟨st.fr,st.H++[.list xs]⟩) :
  Lift Γ VRel s R Q (.ref s.heap.objs.size) { s with heap:=s.heap.push (listOf us.toArray n),toks:=tk } :=
 ⟨_,_,_,h,After.allocList P r z,newRefV P⟩
theorem sim_newList {vs:List Value} {as:List AV} (P:Pre Γ s R st) (r:VRels s.heap R vs as) (z:as.length<=LIM):SimAt Γ VRel (newList vs) (fun Q _=>Q (.ref st.H.length) ⟨st.fr,st.H++[.list as]⟩) s R :=
 .rule fun _ _ hp=>wpAny_newObj_type (list_made P r z hp) (r.line z)
theorem sim_addL {l m:Nat} {xs ys:List AV} (P:Pre Γ s R st) (ra:VRel s.heap R a (.ref l)) (rb:VRel s.heap R b (.ref m)) (h1:st.H[l]?=some (.list xs)) (h2:st.H[m]?=some (.list ys)) (z:xs.length + ys.length<=LIM) :
  SimAt Γ VRel (binaryOp .Add a b) (fun Q _=>Q (.ref st.H.length) ⟨st.fr,st.H++[.list (xs++ys)]⟩) s R:=by
 obtain ⟨a,us,n,rfl,_,_,g1,r1⟩:=P.lst ra h1
 obtain ⟨b,ws,k,rfl,_,_,g2,r2⟩:=P.lst rb h2
 have z':(xs++ys).length<=LIM:=by rw [List.length_append];exact z
 have r:=r1.app r2
 have hz:=r.line z'
 rw [<-List.append_toArray,Array.size_append] at hz
 refine .rule fun _ _ hp=>concat_meets ⟨_,g1,rfl⟩ ⟨_,g2,rfl⟩ noFill_list_add seq_list_add PySem.F.slot_list_add PySem.F.entry_list_add (PySem.F.args_list_add_2 _ _) (list_addW _ _ us.toArray ws.toArray n k none none #[] #[] hz) ⟨g1,g2,?_⟩
 rw [List.append_toArray]
 exact list_made P r z' hp
theorem sim_add (P:Pre Γ s R st) (ra:VRel s.heap R a x) (rb:VRel s.heap R b y):SimAt Γ VRel (binaryOp .Add a b) (fun Q _=>addP x y st Q) s R:=by
 cases x with
 | int i =>
  refine .isInt fun j e=>?_
  subst e
  obtain ⟨t,rfl⟩:=ra.int_v
  obtain ⟨u,rfl⟩:=rb.int_v
  exact .leaf P fun k=>add_int (k _ _ (.int _ _))
 | bytes i =>
  refine .isBytes fun j e=>.and fun z=>?_
  subst e
  obtain ⟨t,rfl,_⟩:=ra.bytes_v
  obtain ⟨u,rfl,_⟩:=rb.bytes_v
  refine .leaf P fun k=>KBy.add_bytes (Nat.le_trans z (by decide)) fun t' tk=>?_
  rw [List.append_toArray]
  exact k _ _ (.bytes _ _ (by rw [List.length_append];exact z))
 | ref l=>exact .isRef fun m e=>.lst fun xs h1=>.lst fun ys h2=>.and fun z=>sim_addL P ra (e▸rb) h1 h2 z
 | _=>exact .no
theorem flatten_rep {α:Type} (x:α) (n:Nat):(List.replicate n [x]).flatten=List.replicate n x:=by
 induction n with
 | zero=>rfl
 | succ n ih=>rw [List.replicate_succ,List.flatten_cons,ih];rfl
theorem sim_mulL {l n:Nat} {i:Int} {u:Tok} {y:AV} (P:Pre Γ s R st) (ra:VRel s.heap R a (.ref l)) (h1:st.H[l]?=some (.list [y])) (z:n<=LIM) (hi:i=n) :
  SimAt Γ VRel (binaryOp .Mult a (.int i u)) (fun Q _=>Q (.ref st.H.length) ⟨st.fr,st.H++[.list (List.replicate n y)]⟩) s R:=by
 obtain ⟨a,us,k,rfl,_,_,g1,r1⟩:=P.lst ra h1
 obtain ⟨v,hv,r2⟩:=r1.inv1
 have z:n<=1048576:=z
 have a1:¬ (!Builtin.List.listFitsIndex i)=true:=by
  unfold Builtin.List.listFitsIndex
  rw [decide_eq_true (by omega),decide_eq_true (by omega)]
  nofun
 have hn:i.toNat=n:=by omega
 have e3:us.toArray.size * i.toNat<=1048576:=by rw [hn,hv];exact (Nat.one_mul n).symm▸z
 have e4:¬ us.toArray.size * i.toNat>sizeLine:=Nat.not_lt.mpr (Nat.le_trans e3 (by decide))
 refine .rule fun _ _ hp=>wpAny_binaryOp_repeat_ref (T:="list") (U:="int") (by decide) ⟨_,g1,rfl⟩ (fun s'=>typeIs_int s' _ u) noFill_list_mul F.fills_int_mul F.slot_int_rmul repeat_list F.slot_int_index.lookup
  (call_meets F.slot_int_rmul (typeIs_int s _ u) F.entry_int_rmul (F.args_int_rmul_2 _ _) (lm_int_rmul_list_any _ u _ _ k none #[])
   ⟨g1,rfl,⟨_,g1,rfl⟩,call_meets F.slot_list_mul ⟨_,g1,rfl⟩ F.entry_list_mul (F.args_list_mul_2 _ _)
    (lm_list_mul_any _ _ k none #[] _ u a1 (Nat.not_lt.mpr (Nat.le_trans e3 (by decide))) (by unfold Builtin.List.listTooLong;rw [decide_eq_false e4];nofun))
    ⟨g1,?_⟩⟩)
 rw [listMul_foldl_if,hn,hv,show (List.replicate n (List.toArray [v]).toList).flatten=List.replicate n v from flatten_rep v n]
 exact list_made (n:=0) P (VRels.rep r2 n) (by rw [List.length_replicate];exact z) hp
theorem sim_mul (P:Pre Γ s R st) (ra:VRel s.heap R a x) (rb:VRel s.heap R b y):SimAt Γ VRel (binaryOp .Mult a b) (fun Q _=>mulP x y st Q) s R:=by
 cases x with
 | int i =>
  refine .isInt fun j e=>.and fun h1=>.and fun h2=>?_
  subst e
  obtain ⟨t,rfl⟩:=ra.int_v
  obtain ⟨u,rfl⟩:=rb.int_v
  exact .leaf P fun k=>mul_int (k _ _ (.int _ _)) (mulOk h1 h2)
 | ref l =>
  refine .nt fun n e=>.lst fun xs h1=>.one fun y e2=>.and fun z=>?_
  subst e e2
  obtain ⟨u,rfl⟩:=rb.int_v
  exact sim_mulL P ra h1 z rfl
 | _=>exact .no
theorem sim_shr {op:Sem Value} (P:Pre Γ s R st) (h:∀ n m:Nat,x=.int n->y=.int m->∀ {Q:Value->Shared->Prop} {E:Value->Shared->Prop},((m:Int) >= (Builtin.Int.intBits n:Nat)->(Made.int (if (n:Int) < 0 then -1 else 0)).post Q s)->(Made.int ((n:Int).fdiv (2 ^ (m:Int).toNat))).post Q s->wpAny Γ.M Γ.A op Q E s) :
  SimAt Γ VRel op (fun Q _=>shrP x y fun v=>Q v st) s R :=
 .nt fun n e=>.nt fun m f=>.leaf P fun k=>have q:=shr_split (n:=n) (m:=m) (P:=fun i=>(Made.int i).post _ s) (k _ _ (.int _ _));h n m e f q.1 q.2
theorem sim_or {op:Sem Value} (P:Pre Γ s R st) (h:∀ n m:Nat,x=.int n->y=.int m->∀ {Q:Value->Shared->Prop} {E:Value->Shared->Prop},Q (.int (Builtin.bitOr n m) s.toks) { s with toks:=s.toks+1 }->wpAny Γ.M Γ.A op Q E s) :
  SimAt Γ VRel op (fun Q _=>orP x y fun v=>Q v st) s R :=
 .nt fun n e=>.nt fun m f=>.leaf P fun k=>h n m e f (by rw [bitOr_nat];exact k _ _ (.int _ _))
theorem sim_bin {op:Operator} (P:Pre Γ s R st) (ra:VRel s.heap R a x) (rb:VRel s.heap R b y):SimAt Γ VRel (binaryOp op a b) (fun Q _=>binP op x y st Q) s R:=by
 cases op with
 | Add=>exact sim_add P ra rb
 | Sub =>
  refine .isInt fun i e=>.isInt fun j f=>?_
  subst e f
  obtain ⟨t,rfl⟩:=ra.int_v
  obtain ⟨u,rfl⟩:=rb.int_v
  exact .leaf P fun k=>sub_int (k _ _ (.int _ _))
 | Mult=>exact sim_mul P ra rb
 | FloorDiv =>
  refine .isInt fun i e=>.isInt fun j f=>.and fun z=>?_
  subst e f
  obtain ⟨t,rfl⟩:=ra.int_v
  obtain ⟨u,rfl⟩:=rb.int_v
  refine .leaf P fun k=>AutoIntOps.floordiv_1 (fun q=>Int.ne_of_gt z.1 (eq_of_beq q)) (noPylong64 z.1 z.2) ?_
  rw [Int.fdiv_eq_ediv_of_nonneg _ (Int.le_of_lt z.1)]
  exact k _ _ (.int _ _)
 | Mod =>
  refine .isInt fun i e=>.isInt fun j f=>.and fun z=>?_
  subst e f
  obtain ⟨t,rfl⟩:=ra.int_v
  obtain ⟨u,rfl⟩:=rb.int_v
  refine .leaf P fun k=>AutoIntOps.mod_1 (fun q=>Int.ne_of_gt z (eq_of_beq q)) ?_
  rw [Int.fmod_eq_emod_of_nonneg _ (Int.le_of_lt z)]
  exact k _ _ (.int _ _)
 | Pow =>
  refine .isInt fun i e=>.nt fun n f=>.and fun z=>?_
  subst e f
  obtain ⟨t,rfl⟩:=ra.int_v
  obtain ⟨u,rfl⟩:=rb.int_v
  obtain ⟨z1,z2,z3⟩:=z
  by_cases hn:n=0
  ·subst hn
   rw [Int.pow_zero]
   exact .leaf P fun k=>AutoIntOps.pow_0 (by decide) (by decide) (k _ _ (.int _ _))
  ·refine .leaf P fun k=>AutoIntOps.pow_4 (by omega) (fun q=>hn (Int.ofNat_inj.mp (eq_of_beq q))) (by simp;omega) (by simp;omega) ?_ (k _ _ (.int _ _))
   have h5:Builtin.Int.intBits i<=64:=intBits_le_64 (by omega) z2
   have h6:((Builtin.Int.intBits i:Nat):Int) * n<=64 * 64:=Int.mul_le_mul (Int.ofNat_le.mpr h5) (Int.ofNat_le.mpr z3) (Int.natCast_nonneg _) (by decide)
   unfold Builtin.Int.intTooBig
   rw [decide_eq_false (Int.not_lt.mpr (Int.le_trans h6 (by decide +kernel)))]
   nofun
 | BitAnd =>
  refine .nt fun i e=>.nt fun j f=>?_
  subst e f
  obtain ⟨t,rfl⟩:=ra.int_v
  obtain ⟨u,rfl⟩:=rb.int_v
  exact .leaf P fun k=>and_int (by rw [bitAnd_nat];exact k _ _ (.int _ _))
 | BitOr =>
  refine sim_or P fun n m e f _ _ k=>?_
  subst e f
  obtain ⟨t,rfl⟩:=ra.int_v
  obtain ⟨u,rfl⟩:=rb.int_v
  exact or_int k
 | LShift =>
  refine .nt fun i e=>.nt fun j f=>.and fun z=>.and fun z2=>?_
  subst e f
  obtain ⟨t,rfl⟩:=ra.int_v
  obtain ⟨u,rfl⟩:=rb.int_v
  refine .leaf P fun k=>lshift_int (Int.natCast_nonneg _) ?_ ?_
  ·have h5:Builtin.Int.intBits (i:Int)<=64:=intBits_le_64 (by omega) (Int.ofNat_lt.mpr z)
   clear ra rb;omega
  ·have:=k (.int ((i * 2 ^ j:Nat):Int) s.toks) (s.toks+1) (.int _ _)
   rw [Int.natCast_mul,Int.natCast_pow] at this
   exact this
 | RShift =>
  refine sim_shr P fun n m e f _ _ k1 k2=>?_
  subst e f
  obtain ⟨t,rfl⟩:=ra.int_v
  obtain ⟨u,rfl⟩:=rb.int_v
  by_cases hb:(m:Int) >= (Builtin.Int.intBits n:Nat)
  ·exact AutoIntOps.rshift_1 (Int.not_lt.mpr (Int.natCast_nonneg _)) hb (k1 hb)
  ·exact AutoIntOps.rshift_2 (Int.not_lt.mpr (Int.natCast_nonneg _)) hb k2
 | _=>exact .no
theorem sim_aug {op:Operator} (P:Pre Γ s R st) (ra:VRel s.heap R a x) (rb:VRel s.heap R b y):SimAt Γ VRel (inplaceOp op a b) (fun Q _=>augP op x y fun v=>Q v st) s R:=by
 cases op with
 | Add =>
  refine .isInt fun i e=>.isInt fun j f=>?_
  subst e f
  obtain ⟨t,rfl⟩:=ra.int_v
  obtain ⟨u,rfl⟩:=rb.int_v
  exact .leaf P fun k=>AutoIntOps.iadd_0 (k _ _ (.int _ _))
 | BitOr =>
  refine sim_or P fun n m e f _ _ k=>?_
  subst e f
  obtain ⟨t,rfl⟩:=ra.int_v
  obtain ⟨u,rfl⟩:=rb.int_v
  exact ior_int k
 | RShift =>
  refine sim_shr P fun n m e f _ _ k1 k2=>?_
  subst e f
  obtain ⟨t,rfl⟩:=ra.int_v
  obtain ⟨u,rfl⟩:=rb.int_v
  by_cases hb:(m:Int) >= (Builtin.Int.intBits n:Nat)
  ·exact AutoIntOps.irshift_1 (Int.not_lt.mpr (Int.natCast_nonneg _)) hb (k1 hb)
  ·exact AutoIntOps.irshift_2 (Int.not_lt.mpr (Int.natCast_nonneg _)) hb k2
 | _=>exact .no
end
end Ab
end
section
namespace Ab
open PySem PySem.W PySem.Calls PyProof.Rows PySem.SeqAt
theorem eqT_of {A:Around} {s:Shared} {R:Reg} {v u:Value} {x:AV} (r:VRel s.heap R v x) (h:RcAt A s v u true):EqAt A s v u true:=fun prog w E Q hq=>by
 unfold eqBool
 refine wpAny_holding (wpAny_ite_split (fun _=>wpAny_bind (wpAny_rule (wpAny_pure hq))) fun _=>?_)
 cases r <;> exact wpAny_bind (h prog w E _ (wpAny_truthy_bool hq))
theorem isTuple_of {h:Heap} {a:Addr} {vs:List Value} (t:h.TupAt a vs):h.IsTuple a vs.toArray:=t.elim fun o q=>q.elim fun n q=>⟨o,q.1,q.2.1,n,q.2.2⟩
theorem rc_bytes {A:Around} {s:Shared} (b c:List UInt8) (t u:Tok):RcAt A s (.bytes b.toArray t) (.bytes c.toArray u) (decide (b=c))/\RcNeAt A s (.bytes b.toArray t) (.bytes c.toArray u) (!decide (b=c)):=by
 have e:decide (b=c)=(b==c):=by rw [Bool.eq_iff_iff,decide_eq_true_iff,beq_iff_eq]
 rw [e]
 exact ⟨fun _ _ _ _ hq=>eq_bytes hq,fun _ _ _ _ hq=>ne_bytes hq⟩
def RcB (A:Around) (s:Shared) (v u:Value) (r:Bool):Prop:=RcAt A s v u r/\RcNeAt A s v u (!r)
theorem all_true (l:List Nat):l.all (fun _=>true)=true:=List.all_eq_true.mpr fun _ _=>rfl
section
variable {Γ:Cx} {s s' s'':Shared} {R R' R'':Reg} {st st' st'':St} {h h':Heap} {H:AH} {a b:Value} {x y:AV}
theorem same_items {A:Around} {us ws:List Value} {xs ys:List AV} (r1:VRels s.heap R us xs) (r2:VRels s.heap R ws ys) (hl:xs.length=ys.length)
  (ih:∀ (i:Nat) (x y:AV),xs[i]?=some x->ys[i]?=some y->∀ v u,VRel s.heap R v x->VRel s.heap R u y->RcB A s v u true) :
  us.toArray.size=ws.toArray.size/\∀ (j:Nat) (h1:j < us.toArray.size) (h2:j < ws.toArray.size),EqAt A s us.toArray[j] ws.toArray[j] true:=by
 refine ⟨r1.len.trans (hl.trans r2.len.symm),fun j h1 h2=>?_⟩
 have h3:j < xs.length:=r1.len▸h1
 have h4:j < ys.length:=r2.len▸h2
 have e1:=List.getElem?_eq_getElem h3
 have e2:=List.getElem?_eq_getElem h4
 have q:=r1.ix j _ _ (List.getElem?_eq_getElem h1) e1
 exact eqT_of q (ih j _ _ e1 e2 _ _ q (r2.ix j _ _ (List.getElem?_eq_getElem h2) e2)).1
theorem same_rc (P:Pre Γ s R st) (n:Nat):∀ (A:Around) (x y:AV) (a b:Value),A.units + n < cLine->Same st.H n x y->VRel s.heap R a x->VRel s.heap R b y->RcB A s a b true:=by
 induction n with
 | zero=>exact fun _ _ _ _ _ _ e=>e.elim
 | succ n ih =>
  intro A x y a b hu e ra rb
  have hu':A.in1.units + n < cLine:=by rw [Around.in1_units];omega
  have hA:A.units < cLine:=Nat.lt_of_le_of_lt (Nat.le_add_right _ _) hu
  cases x with
  | none =>
   obtain rfl:=ra.none_v
   have e:y=.none:=e
   subst e
   obtain rfl:=rb.none_v
   exact ⟨.none_none,.none_none⟩
  | bool i =>
   have e:AV.bool i=y:=e
   subst e
   obtain rfl:=ra.bool_v
   obtain rfl:=rb.bool_v
   have:=And.intro (RcAt.bool_bool (A:=A) (s:=s) i i) (RcNeAt.bool_bool (A:=A) (s:=s) i i)
   rw [beq_self_eq_true] at this
   exact this
  | int i =>
   have e:AV.int i=y:=e
   subst e
   obtain ⟨t,rfl⟩:=ra.int_v
   obtain ⟨u,rfl⟩:=rb.int_v
   have:=And.intro (RcAt.int_int (A:=A) (s:=s) i t i u) (RcNeAt.int_int (A:=A) (s:=s) i t i u)
   rw [beq_self_eq_true] at this
   exact this
  | bytes i =>
   have e:AV.bytes i=y:=e
   subst e
   obtain ⟨t,rfl,_⟩:=ra.bytes_v
   obtain ⟨u,rfl,_⟩:=rb.bytes_v
   have:=rc_bytes (A:=A) (s:=s) i i t u
   rw [decide_eq_true rfl] at this
   exact this
  | tup xs =>
   cases y with
   | tup ys =>
    obtain ⟨p,us,rfl,t1,_,r1⟩:=ra.tup_v
    obtain ⟨q,ws,rfl,t2,_,r2⟩:=rb.tup_v
    obtain ⟨k1,k2⟩:=same_items (A:=A.in1) r1 r2 e.1 fun i x y e1 e2 v u=>ih A.in1 x y v u hu' (e.2 i x y e1 e2)
    have:=And.intro (RcAt.tuples (isTuple_of t1) (isTuple_of t2) hA k2) (RcNeAt.tuples (isTuple_of t1) (isTuple_of t2) hA k2)
    rw [all_true,beq_iff_eq.mpr k1] at this
    exact this
   | _=>exact e.elim
  | ref l =>
   cases y with
   | ref m =>
    obtain ⟨xs,h1,ys,h2,e⟩:=e
    obtain ⟨p,us,_,rfl,_,_,t1,r1⟩:=P.lst ra h1
    obtain ⟨q,ws,_,rfl,_,_,t2,r2⟩:=P.lst rb h2
    obtain ⟨k1,k2⟩:=same_items (A:=A.in1) r1 r2 e.1 fun i x y e1 e2 v u=>ih A.in1 x y v u hu' (e.2 i x y e1 e2)
    have:=And.intro (RcAt.lists (isList t1) (isList t2) k1 hA k2) (RcNeAt.lists (isList t1) (isList t2) k1 hA k2)
    rw [all_true] at this
    exact this
   | _=>exact e.elim
  | rng n=>exact e.elim
theorem pair_rc {A:Around} {i j p q:Int} (hu:A.units < cLine) (ra:VRel s.heap R a (.tup [.int i,.int j])) (rb:VRel s.heap R b (.tup [.int p,.int q])):RcB A s a b (decide (i=p)&&decide (j=q)):=by
 obtain ⟨_,us,rfl,t1,_,r1⟩:=ra.tup_v
 obtain ⟨_,ws,rfl,t2,_,r2⟩:=rb.tup_v
 obtain ⟨_,_,rfl,v1,r3⟩:=r1.inv
 obtain ⟨_,rfl,v2⟩:=r3.inv1
 obtain ⟨_,_,rfl,u1,r4⟩:=r2.inv
 obtain ⟨_,rfl,u2⟩:=r4.inv1
 obtain ⟨k1,rfl⟩:=v1.int_v
 obtain ⟨k2,rfl⟩:=v2.int_v
 obtain ⟨k3,rfl⟩:=u1.int_v
 obtain ⟨k4,rfl⟩:=u2.int_v
 have k:∀ (m:Nat) (h1:m < 2) (h2:m < 2),EqAt A.in1 s ([Value.int i k1,.int j k2].toArray[m]'h1) ([Value.int p k3,.int q k4].toArray[m]'h2) ([i==p,j==q].getD m true):=by
  intro m h1 h2
  cases m with
  | zero=>exact EqAt.int_int _ _ _ _
  | succ m =>
   cases m with
   | zero=>exact EqAt.int_int _ _ _ _
   | succ m=>exact absurd h1 (by omega)
 have:=And.intro (RcAt.tuples (e:=fun m=>[i==p,j==q].getD m true) (isTuple_of t1) (isTuple_of t2) hu k) (RcNeAt.tuples (e:=fun m=>[i==p,j==q].getD m true) (isTuple_of t1) (isTuple_of t2) hu k)
 have e:((List.range (min 2 2)).all (fun m=>[i==p,j==q].getD m true)&&(2:Nat)==2)=(decide (i=p)&&decide (j=q)):=by
  show ((decide (i=p)&&(decide (j=q)&&true))&&true)=_
  rw [Bool.and_true,Bool.and_true]
 exact e▸this
theorem sim_eqP {t:Sem Value} {f:Bool->Bool} (P:Pre Γ s R st) (hu:Γ.A.units + 8 < cLine) (ra:VRel s.heap R a x) (rb:VRel s.heap R b y) (hk:∀ r,RcB Γ.A s a b r->∀ {Q:Value->Shared->Prop} {E:Value->Shared->Prop},Q (.bool (f r)) s->wpAny Γ.M Γ.A t Q E s) :
  SimAt Γ VRel t (fun Q _=>eqP st.H x y fun r=>Q (.bool (f r)) st) s R:=by
 have hl:∀ r,RcB Γ.A s a b r->SimAt Γ VRel t (fun Q _=>Q (.bool (f r)) st) s R:=fun r q=>.leaf P fun k=>hk r q (k _ s.toks (.bool _))
 have he:SimAt Γ VRel t (fun Q _=>Eqv st.H x y fun r=>Q (.bool (f r)) st) s R:=fun Q E hp=>by
  cases hp with
  | same e h=>exact hl true (same_rc P 7 Γ.A x y a b (by omega) e ra rb) Q E h
  | tupNone as e g h =>
   subst e g
   obtain ⟨_,us,rfl,t,_,_⟩:=ra.tup_v
   obtain rfl:=rb.none_v
   exact hl false ⟨.tuple_none (isTuple_of t) (by omega),.tuple_none (isTuple_of t) (by omega)⟩ Q E h
  | pairs i j p q e g h =>
   subst e g
   exact hl _ (pair_rc (by omega) ra rb) Q E h
 cases x with
 | bool i =>
  refine .isBool fun j e=>?_
  subst e
  obtain rfl:=ra.bool_v
  obtain rfl:=rb.bool_v
  exact hl _ ⟨.bool_bool i j,.bool_bool i j⟩
 | int i =>
  refine .isInt fun j e=>?_
  subst e
  obtain ⟨t,rfl⟩:=ra.int_v
  obtain ⟨u,rfl⟩:=rb.int_v
  exact hl _ ⟨.int_int i t j u,.int_int i t j u⟩
 | bytes i =>
  refine .isBytes fun j e=>?_
  subst e
  obtain ⟨t,rfl,_⟩:=ra.bytes_v
  obtain ⟨u,rfl,_⟩:=rb.bytes_v
  exact hl _ (rc_bytes i j t u)
 | rng n=>exact .no
 | _=>exact he
theorem sim_isNone {t:Sem Value} {f:Bool->Bool} (P:Pre Γ s R st) (ra:VRel s.heap R a x) (hk:plainIs a .none=true->∀ {Q:Value->Shared->Prop} {E:Value->Shared->Prop},Q (.bool (f (a==.none))) s->wpAny Γ.M Γ.A t Q E s) :
  SimAt Γ VRel t (fun Q _=>isNone x fun r=>Q (.bool (f r)) st) s R:=by
 cases ra <;> exact .leaf P fun k=>hk rfl (k _ s.toks (.bool _))
theorem ints_are {is:List Int}:∀ {us:List Value},VRels h R us (is.map .int)->IntsAre us is:=by
 induction is with
 | nil=>intro us r;obtain rfl:=r.inv0;exact .nil
 | cons i is ih =>
  intro us r
  obtain ⟨v,ws,rfl,q,r'⟩:=r.inv
  obtain ⟨t,rfl⟩:=q.int_v
  exact .cons i t (ih r')
def fe (i:Int) (v:Value):Bool:=match v with
 | .int j _=>j==i
 | _=>false
theorem ints_fe {A:Around} {i:Int} {t:Tok} {us:List Value} {is:List Int} (x:IntsAre us is):(∀ v∈us,EqAt A s v (.int i t) (fe i v))/\us.any (fe i)=is.any (i==·):=by
 induction x with
 | nil=>exact ⟨(fun _ h=>nomatch h),rfl⟩
 | cons n u _ ih=>exact ⟨fun v hv=>(List.mem_cons.mp hv).elim (fun e=>e▸EqAt.int_int n u i t) (ih.1 v),by rw [List.any_cons,List.any_cons,ih.2];exact congrArg (· || _) BEq.comm⟩
theorem sim_cmp {op:CmpOp} (P:Pre Γ s R st) (hu:Γ.A.units + 8 < cLine) (ra:VRel s.heap R a x) (rb:VRel s.heap R b y):SimAt Γ VRel (compareOp op a b) (fun Q _=>cmpP op x y st.H fun r=>Q (.bool r) st) s R:=by
 have hin:∀ {t:Sem Value} {k:Int->Int->Bool},(∀ i j t' u,a=.int i t'->b=.int j u->∀ {Q:Value->Shared->Prop} {E:Value->Shared->Prop},Q (.bool (k i j)) s->wpAny Γ.M Γ.A t Q E s) →
   SimAt Γ VRel t (fun Q _=>x.isInt fun i=>y.isInt fun j=>Q (.bool (k i j)) st) s R:=fun {t k} hk=>.isInt fun i e=>.isInt fun j f=>by
  subst e f
  obtain ⟨t',rfl⟩:=ra.int_v
  obtain ⟨u,rfl⟩:=rb.int_v
  exact .leaf P fun q=>hk i j t' u rfl rfl (q _ s.toks (.bool _))
 cases op with
 | Lt=>exact hin (k:=fun i j=>decide (i < j)) fun i j t u e f {Q E} h=>by subst e f;exact lt_int h
 | LtE=>exact hin (k:=fun i j=>decide (i<=j)) fun i j t u e f {Q E} h=>by subst e f;exact le_int h
 | Gt=>exact hin (k:=fun i j=>decide (j < i)) fun i j t u e f {Q E} h=>by subst e f;exact gt_int h
 | GtE=>exact hin (k:=fun i j=>decide (j<=i)) fun i j t u e f {Q E} h=>by subst e f;exact ge_int h
 | Eq=>exact sim_eqP (f:=id) P hu ra rb fun r q {Q E} h=>q.1 _ _ E Q h
 | NotEq=>exact sim_eqP (f:=not) P hu ra rb fun r q {Q E} h=>q.2 _ _ E Q h
 | Is =>
  refine .and fun e=>?_
  subst e
  obtain rfl:=rb.none_v
  exact sim_isNone (f:=id) P ra fun z {Q E} h=>wpAny_is_plain z h
 | IsNot =>
  refine .and fun e=>?_
  subst e
  obtain rfl:=rb.none_v
  exact sim_isNone (f:=not) P ra fun z {Q E} h=>wpAny_isNot_plain z h
 | In =>
  refine .isInt fun i e=>.isRef fun l f=>.lst fun xs h1=>.ex fun is=>.and fun g=>?_
  subst e f g
  obtain ⟨t,rfl⟩:=ra.int_v
  obtain ⟨p,us,n,rfl,_,_,g,r⟩:=P.lst rb h1
  have k:=ints_fe (A:=Γ.A.in1) (s:=s) (i:=i) (t:=t) (ints_are r)
  exact .leaf P fun q=>in_listAt (fe i) (isList g) (fun z hz=>k.1 z (List.mem_toArray.mp hz)) (by rw [List.any_toArray,k.2];exact q _ s.toks (.bool _))
 | _=>exact .no
end
end Ab
end
section
set_option maxHeartbeats 4000000
namespace Ab
open PySem PySem.W PySem.Calls PyProof.Rows PyProof.Rows.TI Builtin
section
variable {prog:Program} {w:World} {A:Around}
theorem wpP_load {M:Model} {α:Type} {a:Addr} {p:Option Value} {k:Obj->Sem α} {o:Obj} {s:Shared} {Q:α->Shared->Prop} {E:Value->Shared->Prop} (ho:s.heap.get? a=some o) (h:wpP M A (k o) Q E s):wpP M A (.load a p k) Q E s:=fun Γ q hΓ hZ=>⟨o,ho,h Γ q hΓ hZ⟩
theorem codeP_call_builtin_at {id:String} {args:Args} {b:Builtin} {s:Shared} {Rr:Result->Shared->Prop} (hq:(Code.builtin id args).quiet=true) (hb:entryFor table id=some b) (hk:okCode (.builtin id args)=true)
  (h:wpP (model prog w) A.in1 (checkBuiltinCall id args) (fun _ s₁=>wpP (model prog w) (A.under (.builtin id args)) (b args)
   (fun fin s'=>match fin with|.done f=>Rr (.ok f) s'|.again c'=>c'.quiet=true/\codeP (model prog w) A c' Rr s') (fun e s'=>Rr (.error e) s') s₁)
   (fun e s'=>Rr (.error e) s') s):codeP (model prog w) A (.call (.builtin id) args) Rr s:=by
 refine codeP_of_tree ?_ rfl
 show wpP _ A.in1 (do checkBuiltinCall id args;again (.builtin id args)) _ _ s
 refine wpP_bind (wpP_mono h (fun _ s₁ h₁=>wpP_pure (And.intro hq (codeP_of_tree ?_ hk))) fun _ _ h'=>h')
 show wpP _ _ (match entryFor table id with|some b=>b args|none=>unsupported ((withoutEnding? id "#data").getD id)) _ _ s₁
 rw [hb];exact h₁
variable {C:Addr} {Rr:Result->Shared->Prop} {h:Heap} {g:Array GenState} {d:Drawn} {t:Nat} {os:OsState}
theorem make_coreP {rest:List Value} {init:Value} (Y:Makes (model prog w) h C) (hi:Looks (model prog w) h (typeLookup (.ref C) "__init__") (some init))
  (hb:∀ self,Looks (model prog w) h (bindSpecial init self) (init,[self])) (hne:(some init != some (Value.builtin "object.__init__"))=true)
  (hq:codeP (model prog w) (A.under (.builtin "type.__call__" ⟨.ref C::rest,[]⟩)) (.call init ⟨.ref (h.objs.size+1)::rest,[]⟩) (InitBack (h.objs.size+1) Rr) ⟨(h.push emptyDict).push (instObj C h.objs.size),g,d,t,os⟩) :
  codeP (model prog w) A (.call (.ref C) ⟨rest,[]⟩) Rr ⟨h,g,d,t,os⟩:=by
 have Y':=Y
 obtain ⟨⟨oc,od,cd,sl,hC,e1,e2,e4⟩,made,base,self,top,call,typ⟩:=Y
 refine codeP_of_tree ?_ rfl
 show wpP _ _ (callAny (.ref C) _) _ _ _
 refine wpP_load hC ?_
 show wpP _ _ (callAny.viaDunder (.ref C) _) _ _ _
 unfold callAny.viaDunder
 refine wpP_bind (wpP_of (call.at ?_))
 dsimp only
 rw [tc_bind]
 refine wpP_bind (wpP_pure (wpP_bind (wpP_pure ?_)))
 refine wpP_pure (a:=Fin.again (.call (.builtin "type.__call__") ⟨.ref C::rest,[]⟩)) (And.intro rfl ?_)
 refine codeP_call_builtin_at (Code.quiet_builtin _ (by decide +kernel)) entry_typeCall (show okCode (.builtin "type.__call__" ⟨[],[]⟩)=true by decide +kernel) (wpP_of (check_slot tc_kind tc_split typ (tc_args _ _ _) ?_))
 have hm:Looks (model prog w) h (mroOf (.ref C)) cd.mro:=((Looks.ld (part:=none) hC).andThen .now).andThen .now
 refine wpP_bind (m:=mroOf (.ref C)) (wpP_of (hm.at ?_))
 rw [if_neg (by rw [e4];decide)]
 refine wpP_bind (m:=Bind.madeBy (.ref C)) (wpP_of (made.at ?_))
 dsimp only
 refine wpP_bind (wpP_pure ?_)
 refine wpP_bind (wpP_holding ?_)
 refine wpP_of (wpAny_call ?_)
 refine new_K Y' hi (.inl hne) ?_
 have k:∀ b o,h.get? b=some o->((h.push emptyDict).push (instObj C h.objs.size)).get? b=some o:=fun b o e=>Heap.get?_push_of_some _ (Heap.get?_push_of_some _ e)
 have hx:((h.push emptyDict).push (instObj C h.objs.size)).get? (h.objs.size+1)=some (instObj C h.objs.size):=by heap_get
 have t1:Looks (model prog w) ((h.push emptyDict).push (instObj C h.objs.size)) (typeOf (.ref (h.objs.size+1))) (.ref C):=(Looks.ld hx).andThen .now
 have s1:=self.keeps k
 have i1:=hi.keeps k
 have b1:=(hb (.ref (h.objs.size+1))).keeps k
 have s2:Looks (model prog w) ((h.push emptyDict).push (instObj C h.objs.size)) (isInstance (.ref (h.objs.size+1)) (.ref C)) true:=t1.andThen s1
 dsimp only
 refine wpP_bind (wpP_of (s2.at ?_))
 rw [if_neg (by decide)]
 refine wpP_bind (wpP_holding ?_)
 unfold callSpecial? specialOf
 refine wpP_bind (wpP_bind (wpP_of (t1.at (wpP_of (i1.at ?_)))))
 dsimp only
 refine wpP_holding (wpP_bind (wpP_of (b1.at ?_)))
 dsimp only
 refine wpP_bind (wpP_call (codeP_mono hq fun r s' z=>?_))
 rcases r with e|(v|_|_|_) <;> first|exact z|exact z.elim|skip
 obtain ⟨rfl,z⟩:=z
 exact wpP_pure (wpP_pure z)
end
end Ab
end
section
namespace Ab
open PySem PySem.W PySem.Calls PyProof.Rows PyProof.Rows.TI
theorem plainAttrs_bytearray:PlainAttrs "bytearray" :=
 ⟨⟨"bytearray.__getattribute__",by rw [typeLookup_type,builtinLookup_eq_fast];kernel_rfl,by decide +kernel⟩,by rw [typeLookup_type,builtinLookup_eq_fast];kernel_rfl⟩
theorem slot_ba_append:Slot "bytearray" "append" "bytearray.append" :=
 .of (owner:="bytearray") (n:="append") (by rw [typeLookup_type,builtinLookup_eq_fast];kernel_rfl) (by decide +kernel) (by decide +kernel) (by decide +kernel)
  (by first|exact .inl (by decide +kernel)|exact .inr (by decide +kernel)) (by rw [isSubtype_type];kernel_rfl)
theorem slot_ba_extend:Slot "bytearray" "extend" "bytearray.extend" :=
 .of (owner:="bytearray") (n:="extend") (by rw [typeLookup_type,builtinLookup_eq_fast];kernel_rfl) (by decide +kernel) (by decide +kernel) (by decide +kernel)
  (by first|exact .inl (by decide +kernel)|exact .inr (by decide +kernel)) (by rw [isSubtype_type];kernel_rfl)
theorem slot_bytes_join:Slot "bytes" "join" "bytes.join" :=
 .of (owner:="bytes") (n:="join") (by rw [typeLookup_type,builtinLookup_eq_fast];kernel_rfl) (by decide +kernel) (by decide +kernel) (by decide +kernel)
  (by first|exact .inl (by decide +kernel)|exact .inr (by decide +kernel)) (by rw [isSubtype_type];kernel_rfl)
theorem type_ba_append:typeOf (.builtin "bytearray.append")=pure (.type "method_descriptor"):=by show builtinType _=_;rw [builtinType_eq_fast];kernel_rfl
theorem type_ba_extend:typeOf (.builtin "bytearray.extend")=pure (.type "method_descriptor"):=by show builtinType _=_;rw [builtinType_eq_fast];kernel_rfl
theorem type_bytes_join:typeOf (.builtin "bytes.join")=pure (.type "method_descriptor"):=by show builtinType _=_;rw [builtinType_eq_fast];kernel_rfl
theorem entry_ba_append:entryFor table "bytearray.append"=some Builtin.«bytearray.append»:=entryFor_of_tree (by kernel_rfl)
theorem entry_ba_extend:entryFor table "bytearray.extend"=some Builtin.«bytearray.extend»:=entryFor_of_tree (by kernel_rfl)
theorem entry_bytes_join:entryFor table "bytes.join"=some Builtin.«bytes.join»:=entryFor_of_tree (by kernel_rfl)
theorem owner_ba:Manifest.owners.lookup (String.ofList "bytearray".toList.reverse.reverse)=some Manifest.sig_bytearray:=by kernel_rfl
theorem args_ba_append (a b:Value):argsOk "bytearray.append" ⟨[a,b],[]⟩:=by
 unfold argsOk;kernel_rfl
theorem args_ba_extend (a b:Value):argsOk "bytearray.extend" ⟨[a,b],[]⟩:=by
 unfold argsOk;kernel_rfl
theorem args_bytes_join (a b:Value):argsOk "bytes.join" ⟨[a,b],[]⟩:=by
 unfold argsOk;kernel_rfl
end Ab
end
section
namespace Ab
open PySem PySem.W PySem.Calls PyProof.Rows PyProof.Rows.TI
open PySem.Sem (wp)
section
variable {prog:Program} {w:World} {M:Model} {A:Around} {E:Value->Shared->Prop} {s:Shared} {h h':Heap}
theorem okCode_id {id:String} {args:Args} (h:okCode (.builtin id args)=true):(["bytearray.__contains__","bytearray.__mod__","bytearray.__rmod__","_struct.pack_into.held","bytearray.find.held"]++Builtin.Bytes.decodersThatHold).contains id=false:=Bool.not_eq_true' _▸h
theorem okCode_of {id:String} {args:Args} (h:(["bytearray.__contains__","bytearray.__mod__","bytearray.__rmod__","_struct.pack_into.held","bytearray.find.held"]++Builtin.Bytes.decodersThatHold).contains id=false):okCode (.builtin id args)=true:=congrArg not h
theorem wpP_exported {v:Value} {Q:Bool->Shared->Prop} (h:Q false s):wpP M A (Builtin.Bytes.exported v) Q E s:=fun Γ p hΓ hZ=>by
 unfold Builtin.Bytes.exported
 have hall:∀ c∈(Γ.code,p)::Γ.below,okCode c.1=true:=fun c hc=>(List.mem_cons.mp hc).elim (fun e=>e▸hZ.1) (hZ.2 c)
 rw [Sem.wp_bind']
 show wp M Γ (Sem.stack Sem.pure) _ _ p s
 rw [Sem.wp_stack]
 generalize (Γ.code,p)::Γ.below=l at hall
 show Q (List.any l _) s
 rw [show List.any l _=false from ?_]
 ·exact h
 refine List.any_eq_false.mpr fun c hc=>Bool.eq_false_iff.mp ?_
 have hok:=hall c hc
 obtain ⟨c,q⟩:=c
 cases c with
 | builtin id args =>
  have n:=okCode_id hok
  have ne:∀ x:String,(["bytearray.__contains__","bytearray.__mod__","bytearray.__rmod__","_struct.pack_into.held","bytearray.find.held"]++Builtin.Bytes.decodersThatHold).contains x=true->¬ id=x:=fun x hx e=>by rw [e,hx] at n;cases n
  delta Builtin.Bytes.exported.match_1
  dsimp only
  refine (dif_neg (ne "bytearray.__contains__" (by decide +kernel))).trans ?_
  refine (dif_neg (ne "bytearray.__mod__" (by decide +kernel))).trans ?_
  refine (dif_neg (ne "bytearray.__rmod__" (by decide +kernel))).trans ?_
  refine (dif_neg (ne "_struct.pack_into.held" (by decide +kernel))).trans ?_
  refine (dif_neg (ne "bytearray.find.held" (by decide +kernel))).trans ?_
  rw [List.contains_eq_any_beq,List.any_append,Bool.or_eq_false_iff] at n
  obtain ⟨ps,kw⟩:=args
  cases ps with
  | nil=>rfl
  | cons a ps =>
   show (_&&Builtin.Bytes.decodersThatHold.contains id)=false
   rw [List.contains_eq_any_beq,n.2,Bool.and_false]
 | _=>rfl
theorem wpP_checkResize {a:Addr} {b:Array UInt8} {Q:Unit->Shared->Prop} (ho:s.heap.get? a=some { cls:=.type "bytearray",data:=.bytearray b 0 }) (h:Q () s):wpP M A (Builtin.Bytes.checkResize (.ref a)) Q E s:=by
 unfold Builtin.Bytes.checkResize
 refine wpP_bind (wpP_bind (wpP_exported ?_))
 refine wpP_of ?_
 show wpAny M A (do let x ← Builtin.Bytes.exportsOf (.ref a);pure (decide (x>0))) _ _ s
 refine wpAny_bind ?_
 unfold Builtin.Bytes.exportsOf
 refine wpAny_bind (wpAny_load ho ?_)
 refine wpAny_pure (wpAny_pure ?_)
 exact wpP_pure h
theorem wp_write {a:Addr} {b:Array UInt8} {f:Array UInt8->Array UInt8} {Q:Unit->Shared->Prop} (ho:s.heap.get? a=some { cls:=.type "bytearray",data:=.bytearray b 0 }) (hz:(f b).size<=sizeLine) (h:Q () { s with heap:=s.heap.update a (Obj.mapBytearray f) }):wpAny M A (Builtin.Bytes.write (.ref a) f) Q E s:=by
 unfold Builtin.Bytes.write updateBytearray
 refine wpAny_bind (wpAny_load ho ?_)
 dsimp only
 refine wpAny_bind (wpAny_update ho ?_)
 exact wpAny_lookBehind (Heap.get?_update_self _ ho rfl) (show (if (f b).size>sizeLine then some "bytearray:memory" else none)=none from if_neg (Nat.not_lt.mpr hz)) h
theorem upd_barr {a:Addr} {b:Array UInt8} {f:Array UInt8->Array UInt8} (ho:h.get? a=some { cls:=.type "bytearray",data:=.bytearray b 0 }):(h.update a (Obj.mapBytearray f)).get? a=some { cls:=.type "bytearray",data:=.bytearray (f b) 0 }:=Heap.get?_update_self _ ho rfl
theorem callP {T:String} {name:Str} {id:String} {b:Builtin} {self:Value} {rest:List Value} {Q:Value->Shared->Prop} (slot:Slot T name id) (hT:s.TypeIs self T)
  (entry:entryFor table id=some b) (args:argsOk id ⟨self::rest,[]⟩) (hok:okCode (.builtin id ⟨self::rest,[]⟩)=true)
  (h:wpP (model prog w) (A.under (.builtin id ⟨self::rest,[]⟩)) (b ⟨self::rest,[]⟩) (fun fin s'=>match fin with|.done (.ret v)=>Q v s'|_=>False) E s):wpP (model prog w) A (call (.builtin id) (self::rest)) Q E s:=by
 have hin:codeP (model prog w) A (.builtin id ⟨self::rest,[]⟩) (fun r s'=>match r with|.ok (.ret v)=>Q v s'|.ok _=>False|.error e=>E e s') s:=by
  refine codeP_of_tree ?_ hok
  show wpP _ _ (match entryFor table id with|some b=>b ⟨self::rest,[]⟩|none=>unsupported ((withoutEnding? id "#data").getD id)) _ _ s
  rw [entry]
  refine wpP_mono h (fun fin s' h'=>?_) fun _ _ h'=>h'
  cases fin with
  | done f=>cases f with
   | ret v=>exact h'
   | _=>exact h'.elim
  | again c=>exact h'.elim
 refine wpP_call (codeP_of_tree ?_ (by rfl))
 show wpP _ A.in1 (do checkBuiltinCall id ⟨self::rest,[]⟩;again (.builtin id ⟨self::rest,[]⟩)) _ _ s
 exact wpP_bind (wpP_of (slot.check _ _ _ _ _ _ _ _ hT args (wpP_pure (And.intro (plainId_quiet slot.plain _) hin))))
theorem look_buffer_bytes:typeLookup (.type "bytes") "__buffer__"=pure (some (.builtin "bytes.__buffer__")):=by rw [typeLookup_type,builtinLookup_eq_fast];kernel_rfl
theorem special_buffer (b:Array UInt8) (t:Tok):specialOf (.bytes b t) "__buffer__"=pure (some (.builtin "bytes.__buffer__")):=by
 unfold specialOf
 show (pure (Value.type "bytes"):Sem Value) >>= (fun t=>typeLookup t "__buffer__")=_
 rw [pure_bind]
 exact look_buffer_bytes
theorem takeBuffer_bytes {id:String} {b:Array UInt8} {t:Tok} {Q:Option (Array UInt8×Option Value)->Shared->Prop} (h:Q (some (b,none)) s):wpAny M A (Builtin.Bytes.takeBufferQuiet? id (.bytes b t) 0) Q E s:=by
 unfold Builtin.Bytes.takeBufferQuiet? Builtin.Bytes.takeBuffer?
 rw [special_buffer,KBy.own_buffer,show ((0:Int)==Builtin.Bytes.fullReadOnly)=false from by decide +kernel,KBy.buffer_eq]
 exact wpAny_pure h
theorem wp_payload_barr {a:Addr} {b:Array UInt8} {Q:Array UInt8->Shared->Prop} (ho:s.heap.get? a=some { cls:=.type "bytearray",data:=.bytearray b 0 }) (h:Q b s):wpAny M A (Builtin.Bytes.payload (.ref a)) Q E s:=by
 unfold Builtin.Bytes.payload Builtin.Bytes.payload?
 exact wpAny_bind (wpAny_bind (wpAny_load ho (wpAny_pure (wpAny_pure h))))
theorem wp_addAtEnd {a:Addr} {b c:Array UInt8} {Q:Fin->Shared->Prop} (ho:s.heap.get? a=some { cls:=.type "bytearray",data:=.bytearray b 0 }) (hz:b.size + c.size<=sizeLine) (h:Q (.done (.ret .none)) { s with heap:=s.heap.update a (Obj.mapBytearray (·++c)) }) :
  wpP M A (do
   if !c.isEmpty then Builtin.Bytes.checkResize (.ref a)
   Builtin.Bytes.write (.ref a) (·++c)
   ret .none) Q E s:=by
 have hw:wpP M A (do
   Builtin.Bytes.write (.ref a) (·++c)
   ret .none) Q E s:=wpP_bind (wpP_of (wp_write ho (by simpa using hz) (wpP_pure h)))
 show wpP M A (if (!c.isEmpty)=true then (Builtin.Bytes.checkResize (.ref a) >>= fun _=>_) else _) Q E s
 split
 ·exact wpP_bind (wpP_checkResize ho hw)
 ·exact hw
end
theorem ba_mro:mroOf (.type "bytearray")=pure [.type "bytearray",.type "object"]:=by rw [mroOf_type];kernel_rfl
theorem ba_lookup_new:typeLookup (.type "bytearray") "__new__"=pure (some (.builtin "bytearray.__new__")):=by rw [typeLookup_type,builtinLookup_eq_fast];kernel_rfl
theorem ba_slot_init:Slot "bytearray" "__init__" "bytearray.__init__" :=
 .of (owner:="bytearray") (n:="__init__") (by rw [typeLookup_type,builtinLookup_eq_fast];kernel_rfl) (by decide +kernel) (by decide +kernel) (by decide +kernel)
  (by first|exact .inl (by decide +kernel)|exact .inr (by decide +kernel)) (by rw [isSubtype_type];kernel_rfl)
theorem ba_called:TypeCalled "bytearray" "bytearray.__new__" "bytearray.__init__" :=
 ⟨by decide +kernel,by decide +kernel,⟨_,_,ba_mro⟩,madeBy_type ba_mro ba_lookup_new (by decide +kernel),by decide +kernel,by rw [isSubtype_type];kernel_rfl,ba_slot_init⟩
theorem ba_typeCall:checkTypeCall "bytearray" ⟨[],[]⟩=pure ():=by kernel_rfl
theorem ba_newCall:checkBuiltinCall "bytearray.__new__" ⟨[.type "bytearray"],[]⟩=pure ():=by kernel_rfl
theorem ba_entry_new:entryFor table "bytearray.__new__"=some Builtin.«list.__new__»:=entryFor_alias (id':="list.__new__") (by kernel_rfl) (by first|rfl|decide +kernel) (by decide +kernel) (by kernel_rfl)
theorem ba_entry_init:entryFor table "bytearray.__init__"=some Builtin.«bytearray.__init__»:=entryFor_of_tree (by kernel_rfl)
set_option maxHeartbeats 4000000 in
theorem ba_owner:("bytearray.__new__".splitOn ".__new__").headD ""="bytearray":=by simp +decide [String.splitOn,String.splitOnAux]
theorem ba_bind:Builtin.Bytes.bindOptional "bytearray.__init__" "bytearray" ["source","encoding","errors"] [] []=pure [none,none,none]:=by kernel_rfl
theorem ba_args_init (a:Value):argsOk "bytearray.__init__" ⟨[a],[]⟩:=by
 unfold argsOk;kernel_rfl
theorem ba_sub:isSubtype (.type "bytearray") (.type "bytearray")=pure true:=by rw [isSubtype_type];kernel_rfl
theorem ba_look_release:typeLookup (.type "bytearray") "__release_buffer__"=pure (some (.builtin "bytearray.__release_buffer__")):=by rw [typeLookup_type,builtinLookup_eq_fast];kernel_rfl
theorem ba_look_buffer:typeLookup (.type "bytearray") "__buffer__"=pure (some (.builtin "bytearray.__buffer__")):=by rw [typeLookup_type,builtinLookup_eq_fast];kernel_rfl
theorem ba_no_bytes:typeLookup (.type "bytearray") "__bytes__"=pure none:=by rw [typeLookup_type,builtinLookup_eq_fast];kernel_rfl
theorem ba_no_index:typeLookup (.type "bytearray") "__index__"=pure none:=by rw [typeLookup_type,builtinLookup_eq_fast];kernel_rfl
theorem by_look_bytes:typeLookup (.type "bytes") "__bytes__"=pure (some (.builtin "bytes.__bytes__")):=by rw [typeLookup_type,builtinLookup_eq_fast];kernel_rfl
section
variable {prog:Program} {w:World} {M:Model} {A:Around} {E:Value->Shared->Prop} {s:Shared} {h h':Heap}
theorem ba_code_new {Q₁:Value->Shared->Prop}
  (h:Q₁ (.ref s.heap.objs.size) { s with heap:=s.heap.push { cls:=.type "bytearray",data:=.bytearray #[] } }) :
  codeAny (model prog w) A (.call (.builtin "bytearray.__new__") ⟨[.type "bytearray"],[]⟩) (wants Q₁ E) s:=by
 refine codeAny_of_tree ?_
 show wpAny _ A.in1 (do checkBuiltinCall "bytearray.__new__" ⟨[.type "bytearray"],[]⟩;again (.builtin "bytearray.__new__" ⟨[.type "bytearray"],[]⟩)) _ _ s
 have hpl:plainId "bytearray.__new__"=true:=by decide +kernel
 refine wpAny_bind (wpAny_of_eq ba_newCall (wpAny_pure ⟨plainId_quiet hpl _,codeAny_builtin_stack ba_entry_new rfl fun p st=>?_⟩))
 rw [Around.under_plainId hpl _]
 have hsub:=ba_sub
 have hown:=ba_owner
 obtain ⟨hp,g,d,tk,os⟩:=s
 simp only [hown]
 wp_walk
 exact h
theorem wp_own_ba {a:Addr} {o:Obj} {name:String} {id:String} {Q:Bool->Shared->Prop} (ho:s.heap.get? a=some o) (hc:o.cls=.type "bytearray") (hl:typeLookup (.type "bytearray") (Str.ofString name)=pure (some (.builtin id)))
  (h1:id.endsWith ("."++name)=true) (h2:id.dropRight (name.length+1)="bytearray") (hq:Q true s):wpAny (model prog w) A (Builtin.Bytes.slotIsOwn (.ref a) name) Q E s:=by
 have hT:s.TypeIs (.ref a) "bytearray":=⟨o,ho,hc⟩
 unfold Builtin.Bytes.slotIsOwn
 refine wpAny_bind (wpAny_specialOf hT hl ?_)
 dsimp only
 rw [if_neg (by rw [h1];decide),h2]
 exact wpAny_isInstance hT ba_sub hq
theorem wp_ownRelease_ba {a:Addr} {o:Obj} {Q:Bool->Shared->Prop} (ho:s.heap.get? a=some o) (hc:o.cls=.type "bytearray") (hq:Q false s):wpAny (model prog w) A (Builtin.Bytes.ownRelease (.ref a)) Q E s:=by
 unfold Builtin.Bytes.ownRelease
 exact wpAny_bind (wp_own_ba ho hc ba_look_release (by decide +kernel) (by decide +kernel) (wpAny_pure hq))
theorem wp_buffer_ba {a:Addr} {b:Array UInt8} {id:String} {full:Bool} {Q:Option (Array UInt8)->Shared->Prop} (ho:s.heap.get? a=some { cls:=.type "bytearray",data:=.bytearray b 0 }) (hq:Q (some b) s):wpAny (model prog w) A (Builtin.Bytes.buffer? id (.ref a) full) Q E s:=by
 have hT:s.TypeIs (.ref a) "bytearray":=⟨_,ho,rfl⟩
 unfold Builtin.Bytes.buffer?
 refine wpAny_bind (wpAny_specialOf hT ba_look_buffer ?_)
 dsimp only
 refine wpAny_bind (wp_own_ba ho rfl ba_look_buffer (by decide +kernel) (by decide +kernel) ?_)
 rw [if_neg (by decide)]
 refine wpAny_bind (wpAny_specialOf hT ba_look_buffer ?_)
 show wpAny _ _ (Builtin.Bytes.ownRelease (.ref a) >>= _) _ _ _
 refine wpAny_bind (wp_ownRelease_ba ho rfl ?_)
 rw [if_neg (by decide)]
 exact wpAny_bind (wp_payload_barr ho (wpAny_pure hq))
theorem ba_init {a:Addr} {Q:PySem.Fin->Shared->Prop} (ho:s.heap.get? a=some { cls:=.type "bytearray",data:=.bytearray #[] 0 }) (hq:Q (.done (.ret .none)) { s with heap:=s.heap.update a (Obj.mapBytearray fun _=>#[]) }) :
  wpP (model prog w) A (Builtin.«bytearray.__init__» ⟨[.ref a],[]⟩) Q E s:=by
 unfold Builtin.«bytearray.__init__»
 dsimp only
 refine wpP_bind (wpP_of (wp_ownRelease_ba ho rfl ?_))
 rw [if_neg (by decide)]
 rw [ba_bind]
 refine wpP_bind (wpP_pure ?_)
 dsimp only
 refine wpP_bind (wpP_of (wpAny_of_eq (a:=()) rfl ?_))
 refine wpP_bind (wpP_of (wpAny_of_eq (a:=()) rfl ?_))
 refine wpP_bind (wpP_bind (wpP_exported ?_))
 refine wpP_of ?_
 show wpAny _ A (do let x ← Builtin.Bytes.exportsOf (.ref a);pure (decide (x>0))) _ _ s
 refine wpAny_bind ?_
 unfold Builtin.Bytes.exportsOf
 refine wpAny_bind (wpAny_load ho ?_)
 refine wpAny_pure (wpAny_pure ?_)
 rw [if_neg (by decide)]
 refine wpP_bind (wpP_of (wp_write ho (by decide +kernel) ?_))
 exact wpP_pure hq
theorem codeP_builtin {id:String} {args:Args} {b:Builtin} {Rr:Result->Shared->Prop} (hb:entryFor table id=some b) (hk:okCode (.builtin id args)=true)
  (h:wpP (model prog w) (A.under (.builtin id args)) (b args) (fun fin s'=>match fin with|.done f=>Rr (.ok f) s'|.again c'=>c'.quiet=true/\codeP (model prog w) A c' Rr s') (fun e s'=>Rr (.error e) s') s):codeP (model prog w) A (.builtin id args) Rr s:=by
 refine codeP_of_tree ?_ hk
 show wpP _ _ (match entryFor table id with|some b=>b args|none=>unsupported ((withoutEnding? id "#data").getD id)) _ _ s
 rw [hb];exact h
theorem ba_enter {Q:Value->Shared->Prop} (hin:codeP (model prog w) A (.builtin "type.__call__" ⟨[.type "bytearray"],[]⟩) (fun r s'=>match r with|.ok (.ret v)=>Q v s'|.ok _=>False|.error e=>E e s') s) :
  wpP (model prog w) A (call (.type "bytearray") []) Q E s:=by
 have hq1:(Code.builtin "type.__call__" ⟨[.type "bytearray"],[]⟩).quiet=true:=Code.quiet_builtin _ (by decide +kernel)
 refine wpP_call (codeP_of_tree ?_ (by rfl))
 show wpP _ A.in1 (again (.builtin "type.__call__" ⟨[.type "bytearray"],[]⟩)) _ _ s
 exact wpP_pure (And.intro hq1 hin)
theorem ba_call {Q:Value->Shared->Prop} (hq:Q (.ref s.heap.objs.size) { s with heap:=(s.heap.push { cls:=.type "bytearray",data:=.bytearray #[] }).update s.heap.objs.size (Obj.mapBytearray fun _=>#[]) }) :
  wpP (model prog w) A (call (.type "bytearray") []) Q E s:=by
 have ft:=ba_called
 obtain ⟨c,tl,hmro⟩:=ft.mro
 refine ba_enter (codeP_builtin F.entry_type_call (okCode_of (by decide +kernel)) ?_)
 unfold Builtin.«type.__call__»
 dsimp only
 rw [if_neg (by rw [ft.notType];decide),if_neg (by rw [ft.canCreate];decide)]
 refine wpP_bind (wpP_of (wpAny_of_eq ba_typeCall ?_))
 refine wpP_bind (wpP_of (wpAny_of_eq hmro ?_))
 rw [if_neg (by simp)]
 refine wpP_bind (m:=Bind.madeBy (.type "bytearray")) (wpP_of (wpAny_of_eq ft.made ?_))
 dsimp only
 refine wpP_bind (wpP_pure ?_)
 refine wpP_bind (wpP_holding ?_)
 refine wpP_of (wpAny_call ?_)
 refine ba_code_new ?_
 have g:((s.heap.push { cls:=.type "bytearray",data:=.bytearray #[] }).get? s.heap.objs.size)=some { cls:=.type "bytearray",data:=.bytearray #[] 0 }:=Heap.get?_push_size _ rfl
 have hT:({ s with heap:=s.heap.push { cls:=.type "bytearray",data:=.bytearray #[] } }:Shared).TypeIs (.ref s.heap.objs.size) "bytearray":=⟨_,g,rfl⟩
 refine wpP_bind (wpP_of (wpAny_isInstance hT ba_sub ?_))
 rw [if_neg (by decide)]
 refine wpP_bind (wpP_holding ?_)
 unfold callSpecial?
 refine wpP_bind (wpP_of (wpAny_specialOf hT ba_slot_init.lookup ?_))
 dsimp only
 refine wpP_holding (wpP_bind (wpP_of (wpAny_of_eq (ba_slot_init.bind _) ?_)))
 dsimp only
 refine wpP_bind (wpP_call ?_)
 refine codeP_call_builtin_at (plainId_quiet ba_slot_init.plain _) ba_entry_init (okCode_of (by decide +kernel)) (wpP_of (ba_slot_init.check _ _ _ _ _ _ _ _ hT (ba_args_init _) ?_))
 refine ba_init g ?_
 refine wpP_pure (wpP_pure ?_)
 exact hq
end
section
variable {Γ:Cx} {s s' s'':Shared} {R R' R'':Reg} {st st' st'':St} {h h':Heap} {H:AH} {a b:Value} {x y:AV}
inductive IsBar (h:Heap) (R:Reg) (v:Value) (l:Nat) (b:List UInt8):Prop
 | mk (a:Addr) (e:v=.ref a) (g:R[l]?=some (a,a)) (z:b.length<=LIM) (i:h.get? a=some { cls:=.type "bytearray",data:=.bytearray b.toArray 0 })
theorem Pre.bar {v:Value} {l:Nat} {xs:List UInt8} (P:Pre Γ s R st) (r:VRel s.heap R v (.ref l)) (e:st.H[l]?=some (.barr xs)):IsBar s.heap R v l xs:=by
 obtain ⟨a,b,rfl,g⟩:=r.ref_v
 obtain ⟨e1,z,i⟩:=P.sat.at g e
 obtain rfl:a=b:=e1
 exact ⟨a,rfl,g,z,i⟩
theorem bar_set {f:Array UInt8->Array UInt8} {l:Nat} {a:Addr} {bs cs:List UInt8} {Q:KV} (P:Pre Γ s R st) (K:FxOk Γ.X) (e:R[l]?=some (a,a)) (g:s.heap.get? a=some { cls:=.type "bytearray",data:=.bytearray bs.toArray 0 }) (hr:f bs.toArray=cs.toArray) (z:cs.length<=LIM) (h:Q .none ⟨st.fr,st.H.set l (.barr cs)⟩) :
  Lift Γ VRel s R Q .none { s with heap:=s.heap.update a (Obj.mapBytearray f) } :=
 ⟨_,_,R,h,After.upd (tk:=s.toks) P K e (fun b o hb e=>(Heap.get?_update_ne _ _ _ _ hb).trans e) (upd_barr g) ⟨rfl,z,hr▸upd_barr g⟩,.none⟩
theorem sim_bappend {l n:Nat} {u:Tok} {bs:List UInt8} (P:Pre Γ s R st) (K:FxOk Γ.X) (r:VRel s.heap R a (.ref l)) (hl:st.H[l]?=some (.barr bs)) (hi:n < 256) (hz:bs.length < LIM) :
  SimAt Γ VRel (call (.builtin "bytearray.append") [a,.int n u]) (fun Q _=>Q .none ⟨st.fr,st.H.set l (.barr (bs++[UInt8.ofNat n]))⟩) s R:=fun Q E hp=>by
 obtain ⟨a,rfl,e,_,g⟩:=P.bar r hl
 refine callP slot_ba_append ⟨_,g,rfl⟩ entry_ba_append (args_ba_append _ _) (okCode_of (by decide +kernel)) ?_
 show wpP _ _ (do
  let (self,x) ← selfAndOne "bytearray.append" ⟨[.ref a,.int n u],[]⟩
  let c ← Builtin.Bytes.byteValue x
  Builtin.Bytes.checkResize self
  Builtin.Bytes.write self (·.push c)
  ret .none) _ _ s
 refine wpP_bind (wpP_pure (a:=(Value.ref a,Value.int n u)) ?_)
 refine wpP_bind (wpP_of ?_)
 unfold Builtin.Bytes.byteValue asIndex
 refine wpAny_bind (wpAny_bind (wpAny_pure (a:=some (n:Int)) (wpAny_pure ?_)))
 rw [if_neg (by simp;omega)]
 refine wpAny_bind (wpAny_pure (wpAny_pure ?_))
 have hs:(bs++[UInt8.ofNat n]).length<=LIM:=by rw [List.length_append];exact hz
 have h1:(fun x:Array UInt8=>x.push (n:Int).toNat.toUInt8) bs.toArray=(bs++[UInt8.ofNat n]).toArray:=List.push_toArray bs (UInt8.ofNat n)
 exact wpP_bind (wpP_checkResize g (wpP_bind (wpP_of (wp_write g (by rw [Array.size_push,List.size_toArray];exact Nat.le_trans hz LIM_line) (wpP_pure (bar_set P K e g h1 hs hp))))))
theorem sim_bextend {l:Nat} {u:Tok} {bs cs:List UInt8} (P:Pre Γ s R st) (K:FxOk Γ.X) (r:VRel s.heap R a (.ref l)) (hl:st.H[l]?=some (.barr bs)) (hz:bs.length + cs.length<=LIM) :
  SimAt Γ VRel (call (.builtin "bytearray.extend") [a,.bytes cs.toArray u]) (fun Q _=>Q .none ⟨st.fr,st.H.set l (.barr (bs++cs))⟩) s R:=fun Q E hp=>by
 obtain ⟨a,rfl,e,_,g⟩:=P.bar r hl
 refine callP slot_ba_extend ⟨_,g,rfl⟩ entry_ba_extend (args_ba_extend _ _) (okCode_of (by decide +kernel)) ?_
 unfold Builtin.«bytearray.extend»
 refine wpP_bind (wpP_pure (a:=(Value.ref a,Value.bytes cs.toArray u)) ?_)
 dsimp only
 refine wpP_bind (wpP_of ?_)
 rw [special_buffer]
 refine wpAny_pure ?_
 rw [if_pos (show (some (Value.builtin "bytes.__buffer__")).isSome=true from rfl)]
 refine wpP_bind (wpP_of (wpAny_rule ?_))
 refine wpP_bind (wpP_of (wp_payload_barr g ?_))
 refine wpP_bind (wpP_of (takeBuffer_bytes ?_))
 dsimp only
 rw [if_pos (show (none:Option Value).isNone=true from rfl)]
 have hs:(bs++cs).length<=LIM:=by rw [List.length_append];exact hz
 have h1:(fun x:Array UInt8=>x++cs.toArray) bs.toArray=(bs++cs).toArray:=List.append_toArray bs cs
 exact wp_addAtEnd g (Nat.le_trans (show _<=LIM from hz) LIM_line) (bar_set P K e g h1 hs hp)
theorem sim_bytearray (P:Pre Γ s R st):SimAt Γ VRel (call (.type "bytearray") []) (fun Q _=>Q (.ref st.H.length) ⟨st.fr,st.H++[.barr []]⟩) s R:=fun Q E hp =>
 ba_call ⟨_,_,_,hp,After.alloc (tk:=s.toks) P (fun b o e=>(Heap.get?_update_ne _ _ _ _ (Nat.ne_of_lt (Heap.lt_size e))).trans (Heap.get?_push_of_some _ e)) (get_size_none _) (get_size_none _) ⟨rfl,Nat.zero_le _,upd_barr (Heap.get?_push_size _ rfl)⟩,newRefV P⟩
end
end Ab
end
section
namespace Ab
open PySem PySem.W PySem.Calls PyProof.Rows PyProof.Rows.TI
noncomputable def allBut (h:Heap) (L:Addr):List (Addr×Obj):=(List.range h.objs.size).filterMap fun a=>if a=L then none else (h.get? a).map fun o=>(a,o)
theorem mem_allBut {h:Heap} {L b:Addr} {o:Obj}:(b,o)∈allBut h L↔b≠L/\h.get? b=some o:=by
 unfold allBut
 rw [List.mem_filterMap]
 constructor
 ·rintro ⟨a,_,e⟩
  by_cases ha:a=L
  ·rw [if_pos ha] at e;cases e
  ·rw [if_neg ha] at e
   obtain ⟨o',e1,e2⟩:=Option.map_eq_some_iff.mp e
   cases e2;exact ⟨ha,e1⟩
 ·rintro ⟨hb,e⟩
  exact ⟨b,List.mem_range.mpr (Heap.lt_size e),by rw [if_neg hb,e];rfl⟩
noncomputable def noHeap:Heap:={}
theorem noHeap_get (a:Addr):noHeap.get? a=none:=by
 unfold noHeap Heap.get?;simp
theorem news_allBut (h:Heap) (L:Addr):News noHeap L h (allBut h L):=fun p hp=>by
 obtain ⟨b,o⟩:=p
 obtain ⟨h1,h2⟩:=mem_allBut.mp hp
 exact ⟨h2,h1,noHeap_get _⟩
theorem fr_of_ns {h:Heap} {L:Addr} {m:Str->Option Value} (n:h.Ns L m):Fr noHeap L h m:=⟨n,(fun b o e=>by rw [noHeap_get] at e;cases e),Nat.zero_le _⟩
theorem keep_of_news {h h':Heap} {L:Addr} {news:List (Addr×Obj)} (N:News noHeap L h' news) (hs:∀ p∈allBut h L,p∈news):∀ b o,b≠L->h.get? b=some o->h'.get? b=some o :=
 fun b o hb e=>(N (b,o) (hs _ (mem_allBut.mpr ⟨hb,e⟩))).1
theorem by_look_len:typeLookup (.type "bytes") "__len__"=pure (some (.builtin "bytes.__len__")):=by rw [typeLookup_type,builtinLookup_eq_fast];kernel_rfl
section
variable {prog:Program} {w:World} {M:Model} {A:Around} {E:Value->Shared->Prop} {s:Shared} {h h':Heap}
theorem by_hint {b:Array UInt8} {t:Tok} {Q:Bool->Shared->Prop} (hq:Q false s):wpAny (model prog w) A (Builtin.List.listLengthHint (.bytes b t)) Q E s:=by
 unfold Builtin.List.listLengthHint
 refine wpAny_bind (wpAny_specialOf (PySem.W.typeIs_bytes s b t) by_look_len ?_)
 generalize hid:("bytes.__len__":String)=id0
 wp_delta
 rw [show splitId id0=some ("bytes","__len__") from by subst hid;decide +kernel]
 subst hid
 refine wpAny_bind (wpAny_isInstance (PySem.W.typeIs_bytes s b t) F.bm_sub ?_)
 refine wpAny_ite_split (fun hab=>absurd hab (by decide)) (fun _=>?_)
 refine wpAny_ite_split (fun _=>?_) (fun hab=>absurd (by decide +kernel) hab)
 refine wpAny_bind (wpAny_of_eq (a:=.type "bytes") rfl ?_)
 exact wpAny_pure hq
theorem by_extend {R:Result->Shared->Prop} {b:Array UInt8} {t:Tok} (hh:A.handled=none) (S:Addr) (res:Value) (c₀:Nat) (hS:s.heap.get? S=some { cls:=.type "list",data:=.seq #[] c₀ })
  (hR:∀ h' tk acc' c',(∀ b o,b≠S->s.heap.get? b=some o->h'.get? b=some o)->h'.get? S=some { cls:=.type "list",dict:=none,data:=.seq acc' c',slots:=#[] }->ItemsOf (fun i v=>∃ c u,b[i]?=some c/\v=.int (c.toNat:Int) u) acc' b.size->R (.ok (.ret res)) { s with heap:=h',toks:=tk }) (hn:b.size<=sizeLine) :
  wpAny (model prog w) A.in1 (Builtin.List.listExtendWith (.ref S) (.bytes b t) res)
   (fun fin s'=>match fin with|.done f=>R (.ok f) s'|.again c'=>c'.quiet=true/\codeAny (model prog w) A c' R s') (fun e s'=>R (.error e) s') s:=by
 have hSI:S≠s.heap.objs.size:=Nat.ne_of_lt (Heap.lt_size hS)
 have hSf:S∉[s.heap.objs.size]:=fun hm=>hSI (List.mem_singleton.mp hm)
 have W:=KBw.walks (prog:=prog) (w:=w) (A:=A.in1) hh s.heap.objs.size b t
 have key:∀ (h:Heap) (c₁ tk:Nat),KBw.IsBytesIter h s.heap.objs.size b t 0->(∀ b o,b≠S->s.heap.get? b=some o->h.get? b=some o) →
   h.get? S=some { cls:=.type "list",data:=.seq #[] c₁ }->codeAny (model prog w) A (.builtin "list.extend.loop" ⟨[.ref S,.ref s.heap.objs.size,res],[]⟩) R { s with heap:=h,toks:=tk }:=by
  intro h c₁ tk hst hk hS₁
  refine codeAny_extend_loopS W.toS hn S hSf res b.size 0 _ #[] c₁ rfl (Nat.zero_le _) hst hS₁ (ItemsOf.nil _) fun s' acc' c' hm hS' hacc=>?_
  rw [Moved.eq_with hm]
  refine hR s'.heap s'.toks acc' c' (fun b o hb e=>hm.heap b o (fun hmem=>?_) (hk b o hb e)) hS' hacc
  rcases List.mem_cons.mp hmem with e'|hmem
  ·exact hb e'
  ·exact absurd (Heap.lt_size e) (by rw [List.mem_singleton.mp hmem];exact Nat.lt_irrefl _)
 unfold Builtin.List.listExtendWith
 refine wpAny_bind (wpAny_of_eq (a:=.type "bytes") rfl ?_)
 have g1:Builtin.List.listSameRef (.ref S) (.bytes b t)=false:=rfl
 have g2:(Value.type "bytes"==Value.type "list")=false:=by decide
 have g3:(Value.type "bytes"==Value.type "tuple")=false:=by decide
 simp only [g1,g2,g3,Bool.or_false,Bool.false_eq_true,if_false]
 refine wpAny_bind (KBw.pyIter_bytes ?_)
 have st:KBw.IsBytesIter (s.heap.push { cls:=.type "bytes_iterator",data:=.fields #[.bytes b t,.int 0 0] }) s.heap.objs.size b t 0:=⟨_,Heap.get?_push_size _ rfl,rfl,rfl⟩
 have hS₁:=Heap.get?_push_of_some { cls:=.type "bytes_iterator",data:=.fields #[.bytes b t,.int 0 0] } hS
 refine wpAny_bind (wpAny_holding (by_hint ?_))
 refine wpAny_ite_split (fun _=>?_) (fun _=>wpAny_pure ⟨plainId_quiet PySem.F.plain_extend_loop _,key _ c₀ _ st (fun b o _ e=>Heap.get?_push_of_some _ e) hS₁⟩)
 refine wpAny_bind (wpAny_rule ?_)
 refine wpAny_bind ?_
 show wpAny _ _ (updateSeq S (·.push .none) >>= fun _=>updateSeq S (·.pop)) _ _ _
 refine wpAny_bind (wpAny_updateSeq hS₁ rfl ?_)
 have hS₂:=Heap.get?_update_self (Obj.mapSeq (·.push Value.none)) hS₁ rfl
 refine wpAny_updateSeq (hz:=by seq_fits) hS₂ rfl ?_
 have hS₃:=Heap.get?_update_self (Obj.mapSeq (·.pop)) hS₂ rfl
 refine wpAny_pure ⟨plainId_quiet PySem.F.plain_extend_loop _,key _ _ _ ?_ (fun b o hb e=>?_) hS₃⟩
 ·refine W.frame 0 _ _ st fun b hb o e=>?_
  have hbS:b≠S:=fun h=>hSf (h▸hb)
  exact (Heap.get?_update_other _ _ (Ne.symm hbS)).trans ((Heap.get?_update_other _ _ (Ne.symm hbS)).trans e)
 ·exact (Heap.get?_update_other _ _ (Ne.symm hb)).trans ((Heap.get?_update_other _ _ (Ne.symm hb)).trans (Heap.get?_push_of_some _ e))
theorem by_collect {b:Array UInt8} {t:Tok} {Q:List Value->Shared->Prop} (hh:A.handled=none) (hn:b.size<=sizeLine)
  (hQ:∀ h' tk acc',(∀ b o,s.heap.get? b=some o->h'.get? b=some o)->ItemsOf (fun i v=>∃ c u,b[i]?=some c/\v=.int (c.toNat:Int) u) acc' b.size->Q acc'.toList { s with heap:=h',toks:=tk }) :
  wpAny (model prog w) A (collect (.bytes b t)) Q E s:=by
 unfold collect
 refine wpAny_bind (wpAny_runValue (codeAny_builtin F.entry_proto_collect ?_))
 rw [Around.under_plainId F.plain_proto_collect _]
 show wpAny _ A.in1 (newList [] >>= fun l=>again (.builtin "list.__iadd__" ⟨[l,.bytes b t],[]⟩)) _ _ s
 refine wpAny_bind (wpAny_newObj_type ?_)
 refine wpAny_pure ⟨plainId_quiet F.plain_list_iadd _,codeAny_builtin F.entry_list_iadd ?_⟩
 rw [Around.under_plainId F.plain_list_iadd _]
 show wpAny _ A.in1 (Builtin.List.listExtendWith (.ref s.heap.objs.size) (.bytes b t) (.ref s.heap.objs.size)) _ _ _
 have hS:(s.heap.push { cls:=.type "list",data:=.seq ([]:List Value).toArray }).get? s.heap.objs.size=some { cls:=.type "list",data:=.seq #[] }:=Heap.get?_push_size _ rfl
 refine by_extend (R:=fun r s'=>match r with
  | .ok (.ret v)=>wpAny (model prog w) A (match v with
   | .ref a=>do match (← load a).data with
    | .seq xs _=>pure xs.toList
    | _=>unsupported "internal:collect"
   | _=>unsupported "internal:collect") Q E s'
  | .ok _=>False
  | .error e=>E e s') (s:={ s with heap:=s.heap.push { cls:=.type "list",data:=.seq ([]:List Value).toArray } }) hh s.heap.objs.size (.ref s.heap.objs.size) 0 hS (fun h' tk acc' c' hk hS' hacc=>?_) hn
 show wpAny _ A (load s.heap.objs.size >>= _) _ _ _
 refine wpAny_bind (wpAny_load hS' ?_)
 exact wpAny_pure (hQ h' tk acc' (fun b o e=>hk b o (Nat.ne_of_lt (Heap.lt_size e)) (Heap.get?_push_of_some _ e)) hacc)
theorem by_ints {b:Array UInt8} {acc:Array Value} (x:ItemsOf (fun i v=>∃ c u,b[i]?=some c/\v=.int (c.toNat:Int) u) acc b.size):IntsAre acc.toList (b.toList.map fun c=>(c.toNat:Int)):=by
 have key:∀ (vs:List Value) (bs:List UInt8),vs.length=bs.length->(∀ (i:Nat) (v:Value),vs[i]?=some v->∃ c u,bs[i]?=some c/\v=Value.int (c.toNat:Int) u)->IntsAre vs (bs.map fun c=>(c.toNat:Int)):=by
  intro vs
  induction vs with
  | nil=>intro bs hl _;cases bs with
   | nil=>exact .nil
   | cons _ _=>cases hl
  | cons v vs ih=>intro bs hl hv;cases bs with
   | nil=>cases hl
   | cons c bs =>
    obtain ⟨c',u,e1,e2⟩:=hv 0 v rfl
    cases e1
    subst e2
    exact .cons _ _ (ih bs (by simpa using hl) fun i v e=>hv (i+1) v e)
 refine key _ _ (by rw [Array.length_toList,Array.length_toList];exact x.1) fun i v e=>?_
 rw [Array.getElem?_toList] at e
 obtain ⟨c,u,h1,h2⟩:=x.2 i v e
 exact ⟨c,u,by rw [Array.getElem?_toList];exact h1,h2⟩
theorem insertI_perm (x:Int):∀ l:List Int,(insertI x l).Perm (x::l)
 | []=>.refl _
 | y::r=>by
  unfold insertI
  split
  ·exact .refl _
  ·exact ((insertI_perm x r).cons y).trans (.swap x y r)
theorem sortI_perm:∀ l:List Int,(sortI l).Perm l
 | []=>.refl _
 | x::r=>(insertI_perm x (sortI r)).trans ((sortI_perm r).cons x)
theorem insertI_sorted (x:Int):∀ l:List Int,l.Pairwise (·<=·)->(insertI x l).Pairwise (·<=·)
 | [],_=>List.pairwise_singleton _ _
 | y::r,h=>by
  unfold insertI
  have h1:=List.pairwise_cons.mp h
  split
  ·rename_i hxy
   refine List.pairwise_cons.mpr ⟨fun z hz=>?_,h⟩
   rcases List.mem_cons.mp hz with rfl|hz
   ·exact hxy
   ·exact Int.le_trans hxy (h1.1 z hz)
  ·rename_i hxy
   refine List.pairwise_cons.mpr ⟨fun z hz=>?_,insertI_sorted x r h1.2⟩
   rcases List.mem_cons.mp ((insertI_perm x r).mem_iff.mp hz) with rfl|hz
   ·omega
   ·exact h1.1 z hz
theorem sortI_sorted:∀ l:List Int,(sortI l).Pairwise (·<=·)
 | []=>.nil
 | x::r=>insertI_sorted x _ (sortI_sorted r)
theorem sortI_eq {l l':List Int} (p:l'.Perm l) (h:l'.Pairwise (·<=·)):l'=sortI l :=
 List.Perm.eq_of_pairwise (le:=(·<=·)) (fun a b _ _ h1 h2=>Int.le_antisymm h1 h2) h (sortI_sorted l) (p.trans (sortI_perm l).symm)
theorem by_callG {a:Value} {Q:Value->Shared->Prop} (hnew:wpAny (model prog w) A.in1.in1 (Builtin.«bytes.__new__» ⟨[.type "bytes",a],[]⟩) (fun fin s'=>match fin with|.done f=>wants (fun obj s₁=>s₁.TypeIs obj "bytes"/\Q obj s₁) E (.ok f) s'|.again c'=>c'.quiet=true/\codeAny (model prog w) A.in1 c' (wants (fun obj s₁=>s₁.TypeIs obj "bytes"/\Q obj s₁) E) s') (fun e s'=>wants (fun obj s₁=>s₁.TypeIs obj "bytes"/\Q obj s₁) E (.error e) s') s) :
  wpAny (model prog w) A (call (.type "bytes") [a]) Q E s:=by
 refine callType_codes (Q₁:=fun obj s₁=>s₁.TypeIs obj "bytes"/\Q obj s₁) F.bm_called (F.bm_typeCall _) F.entry_object_init ?_ fun obj s₁ h₁=>?_
 ·refine codeAny_of_tree ?_
  show wpAny _ _ (do checkBuiltinCall "bytes.__new__" ⟨[.type "bytes",a],[]⟩;again (.builtin "bytes.__new__" ⟨[.type "bytes",a],[]⟩)) _ _ s
  refine wpAny_bind (wpAny_of_eq (F.bm_newCall _) (wpAny_pure ⟨plainId_quiet F.bm_plain _,codeAny_builtin F.bm_entry ?_⟩))
  rw [Around.under_plainId F.bm_plain _]
  exact hnew
 ·exact ⟨h₁.1,F.args_object_init_2 obj _,object_init_meets F.bm_called.init.lookup F.bm_called.made (by decide) prog w A.in1 _ s₁ ⟨h₁.1,rfl,h₁.2⟩⟩
theorem by_bytes {b:Array UInt8} {t:Tok} {Q:Value->Shared->Prop} (hq:Q (.bytes b t) s):wpAny (model prog w) A (call (.type "bytes") [.bytes b t]) Q E s:=by
 refine by_callG ?_
 unfold Builtin.«bytes.__new__»
 refine wpAny_bind (wpAny_of_eq (a:=true) rfl ?_)
 refine bm_if_false rfl ?_
 refine wpAny_bind (wpAny_of_eq F.bm_sub ?_)
 refine bm_if_false rfl ?_
 refine wpAny_bind (wpAny_of_eq (F.bm_bind _) ?_)
 refine wpAny_bind (wpAny_of_eq (a:=()) rfl ?_)
 refine wpAny_bind (wpAny_of_eq (a:=()) rfl ?_)
 refine bm_if_false rfl ?_
 refine wpAny_bind (wpAny_specialOf (PySem.W.typeIs_bytes s b t) by_look_bytes ?_)
 dsimp only
 refine wpAny_bind (wpAny_rule ?_)
 refine wpAny_bind (wpAny_of_eq (a:=.type "bytes") rfl ?_)
 rw [if_pos (by decide)]
 show wpAny _ _ (if (Value.type "bytes"==Value.type "bytes")=true then _ else _) _ _ _
 refine bm_if_true (by decide) ?_
 first
  | exact wpAny_pure ⟨PySem.W.typeIs_bytes _ _ _,hq⟩
  | exact wpAny_bind (wpAny_pure (wpAny_pure ⟨PySem.W.typeIs_bytes _ _ _,hq⟩))
theorem by_barr {a:Addr} {b:Array UInt8} {Q:Value->Shared->Prop} (ho:s.heap.get? a=some { cls:=.type "bytearray",data:=.bytearray b 0 }) (hz:b.size<=sizeLine) (hq:∀ t k,Q (.bytes b t) { s with toks:=k }):wpAny (model prog w) A (call (.type "bytes") [.ref a]) Q E s:=by
 refine by_callG ?_
 have hT:s.TypeIs (.ref a) "bytearray":=⟨_,ho,rfl⟩
 unfold Builtin.«bytes.__new__»
 refine wpAny_bind (wpAny_of_eq (a:=true) rfl ?_)
 refine bm_if_false rfl ?_
 refine wpAny_bind (wpAny_of_eq F.bm_sub ?_)
 refine bm_if_false rfl ?_
 refine wpAny_bind (wpAny_of_eq (F.bm_bind _) ?_)
 refine wpAny_bind (wpAny_of_eq (a:=()) rfl ?_)
 refine wpAny_bind (wpAny_of_eq (a:=()) rfl ?_)
 refine bm_if_false rfl ?_
 refine wpAny_bind (wpAny_specialOf hT ba_no_bytes ?_)
 refine wpAny_bind (wpAny_bind ?_)
 show wpAny _ _ (load a >>= _) _ _ _
 refine wpAny_bind (wpAny_load ho ?_)
 refine wpAny_pure (wpAny_pure ?_)
 refine bm_if_false rfl ?_
 refine wpAny_bind (wpAny_specialOf hT ba_no_index ?_)
 refine bm_if_true rfl ?_
 first
  | show wpAny _ _ (Builtin.Bytes.buffer? "bytes.__new__" (.ref a) true >>= _) _ _ _
  | (refine wpAny_bind ?_;show wpAny _ _ (Builtin.Bytes.buffer? "bytes.__new__" (.ref a) true >>= _) _ _ _)
 refine wpAny_bind (wp_buffer_ba ho ?_)
 refine wpAny_bind (wpAny_rule ?_)
 refine wpAny_bind (wpAny_mkBytes ?_ hz)
 show wpAny _ _ (if (Value.type "bytes"==Value.type "bytes")=true then _ else _) _ _ _
 refine bm_if_true (by decide) ?_
 first
  | exact wpAny_pure ⟨PySem.W.typeIs_bytes _ _ _,hq _ _⟩
  | exact wpAny_bind (wpAny_pure (wpAny_pure ⟨PySem.W.typeIs_bytes _ _ _,hq _ _⟩))
  | exact wpAny_bind (wpAny_pure (wpAny_pure (wpAny_pure ⟨PySem.W.typeIs_bytes _ _ _,hq _ _⟩)))
end
section
variable {Γ:Cx} {s s' s'':Shared} {R R' R'':Reg} {st st' st'':St} {h h':Heap} {H:AH} {a b:Value} {x y:AV}
theorem After.butFrame {tk:Nat} {m:Str->Option Value} (P:Pre Γ s R st) (K:FxOk Γ.X) (hm:s.heap.Ns Γ.X.env.locals m) (hm':h'.Ns Γ.X.env.locals m) (hk:∀ b o,b≠Γ.X.env.locals->s.heap.get? b=some o->h'.get? b=some o) :
  After Γ s R { s with heap:=h',toks:=tk } R st :=
 have k9:=P.sat.upd_keeps9 (.inr (List.mem_append_left _ K.loc)) hk
 After.frame P K.loc hk (ns_owned hm') ⟨P.fr.len,P.fr.ns.casesOn fun m2 n r=>⟨m,hm',fun i y a e1 e2 e3=>(r i y a e1 e2 e3).elim fun v q=>⟨v,(hm.agree n _).trans q.1,q.2.mono k9⟩⟩,
  fun i y e1 e2=>(P.fr.cel i y e1 e2).casesOn fun c o ov e g d r=>⟨c,o,ov,e,hk _ _ (K.cellNe _ _ e) g,d,fun a q=>(r a q).elim fun v q=>⟨v,q.1,q.2.mono k9⟩⟩⟩
theorem vrels_ints {vs:List Value} {is:List Int} (x:IntsAre vs is):VRels h R vs (is.map .int):=by
 induction x with
 | nil=>exact .nil
 | cons n t _ ih=>exact .cons (.int n t) ih
theorem bytes_ints {b:List UInt8} {us:List Value} (r:VRels h R us (octInts b)):IntsAre us (b.map fun x=>(x.toNat:Int)):=ints_are (by rw [List.map_map];exact r)
theorem byteArr_eq (b:List UInt8):byteArr (b.map fun x=>(x.toNat:Int))=b.toArray:=by
 unfold byteArr
 rw [List.map_map]
 congr 1
 exact (List.map_congr_left fun x _=>by simp).trans (List.map_id b)
theorem sim_len (P:Pre Γ s R st) (r:VRel s.heap R a x):SimAt Γ VRel (call (.builtin "len") [a]) (fun Q _=>primP .len [x] st Q) s R:=by
 cases x with
 | bytes b =>
  obtain ⟨t,rfl,z⟩:=r.bytes_v
  exact .leaf P fun k=>len_bytes (Nat.le_trans (show b.length<=LIM from z) (by decide)) (k _ _ (.int _ _))
 | tup xs =>
  obtain ⟨p,us,rfl,t,z,q⟩:=r.tup_v
  have hz:us.toArray.size<=LIM:=by rw [List.size_toArray,q.len];exact z
  exact .leaf P fun k=>PyProof.Rows.len_tuple (isTuple_of t) (Int.lt_of_le_of_lt (Int.ofNat_le.mpr hz) (by decide)) (by rw [List.size_toArray,q.len];exact k _ _ (.int _ _))
 | ref l =>
  refine .lst fun xs h1=>?_
  obtain ⟨p,us,n,rfl,_,z,g,q⟩:=P.lst r h1
  have hz:us.toArray.size<=LIM:=by rw [List.size_toArray,q.len];exact z
  exact .leaf P fun k=>call_len_list (isList g) (Int.lt_of_le_of_lt (Int.ofNat_le.mpr hz) (by decide)) (by rw [List.size_toArray,q.len];exact k _ _ (.int _ _))
 | _=>exact .no
theorem tup_made {p:Addr} {Q:KV} {tk n:Nat} {us:List Value} {xs:List AV} (P:Pre Γ s R st) (hk:∀ b o,s.heap.get? b=some o->h'.get? b=some o) (g:h'.get? p=some { cls:=.type "tuple",data:=.seq us.toArray n }) (z:xs.length<=LIM) (r:VRels s.heap R us xs) (h:Q (.tup xs) st) :
  Lift Γ VRel s R Q (.ref p) { s with heap:=h',toks:=tk } :=
 ⟨_,_,R,h,After.keepAll P hk,VRel.mkTup ⟨_,n,g,rfl,rfl⟩ z (r.mono (keeps9_h hk))⟩
theorem sim_tupleOf (P:Pre Γ s R st) (r:VRel s.heap R a x):SimAt Γ VRel (call (.type "tuple") [a]) (fun Q _=>primP .tuple [x] st Q) s R:=by
 refine .isRef fun l e=>.lst fun xs h1=>?_
 subst e
 obtain ⟨p,us,n,rfl,_,z,g,q⟩:=P.lst r h1
 exact .rule fun Q E hp=>call_tuple_list (isList g) (fun h1 hk=>tup_made P (fun b o e=>Heap.get?_push_of_some _ (hk b o e)) (Heap.get?_push_size _ rfl) z q hp) (q.line z)
theorem sim_isBytes {b:List UInt8} (P:Pre Γ s R st) (r:VRel s.heap R a (.bytes b)):SimAt Γ VRel (call (.builtin "isinstance") [a,.type "bytes"]) (fun Q _=>Q (.bool true) st) s R:=by
 obtain ⟨t,rfl,_⟩:=r.bytes_v
 exact .rule fun Q E hp=>call_isinstance (isinstance_true (Tx:="bytes") F.isi_meta_bytes F.sub_bytes_bytes) ⟨PySem.W.typeIs_bytes _ _ _,_,_,R,hp,After.toks P,.bool true⟩
theorem sim_bytesOf (hh:Γ.A.handled=none) (P:Pre Γ s R st) (r:VRel s.heap R a x):SimAt Γ VRel (call (.type "bytes") [a]) (fun Q _=>primP .bytes [x] st Q) s R:=by
 cases x with
 | bytes b =>
  obtain ⟨t,rfl,z⟩:=r.bytes_v
  exact .rule fun Q E hp=>by_bytes ⟨_,_,R,hp,After.toks P,.bytes _ _ z⟩
 | ref l =>
  refine .or (.lst fun xs h1=>.ex fun b=>.and fun e=>?_) (.bar fun b h1=>?_)
  ·subst e
   obtain ⟨p,us,n,rfl,_,z,g,q⟩:=P.lst r h1
   refine .rule fun Q E hp=>call_bytes_ints (isList g) (bytes_ints q) (fun n hn=>?_) (by rw [q.len];exact Nat.le_trans z LIM_line) hh fun h' t k hk=>?_
   ·obtain ⟨c,_,rfl⟩:=List.mem_map.mp hn
    exact ⟨Int.natCast_nonneg _,Int.ofNat_lt.mpr c.toNat_lt⟩
   ·rw [byteArr_eq]
    exact ⟨_,_,R,hp,After.keepAll P hk,.bytes _ _ (by unfold octInts at z;rw [List.length_map] at z;exact z)⟩
  ·obtain ⟨p,rfl,_,z,g⟩:=P.bar r h1
   exact .rule fun Q E hp=>by_barr g (by rw [List.size_toArray];exact Nat.le_trans z LIM_line) fun t k=>⟨_,_,R,hp,After.toks P,.bytes _ _ z⟩
 | _=>exact .no
theorem sim_sum (hh:Γ.A.handled=none) (K:FxOk Γ.X) (P:Pre Γ s R st) (r:VRel s.heap R a x):SimAt Γ VRel (call (.builtin "sum") [a]) (fun Q _=>primP .sum [x] st Q) s R:=by
 cases x with
 | bytes b =>
  obtain ⟨t,rfl,z⟩:=r.bytes_v
  obtain ⟨m,hm,_⟩:=P.fr.ns
  refine .rule fun Q E hp=>KBmo.sum_K (fr_of_ns hm) (news_allBut s.heap Γ.X.env.locals) hh rfl (Nat.le_trans (by unfold KBw.bInts;rw [List.length_map];exact z) (by decide)) fun h' t' k F' N' _ _=>?_
  exact ⟨_,_,R,hp,After.butFrame P K hm F'.ns (keep_of_news N' fun p hp=>hp),.int _ _⟩
 | ref l =>
  refine .lst fun xs h1=>.ex fun is=>.and fun e=>?_
  subst e
  obtain ⟨p,us,n,rfl,_,z,g,q⟩:=P.lst r h1
  have k1:=ints_are q
  obtain ⟨xs',hx⟩:=k1.allInts.items
  refine .rule fun Q E hp=>sum_intListG hh (hx▸isList g) fun h' tk t' hk=>?_
  have e1:is=xs'.toList.map (·.1):=by
   rw [<-nums_intItems,<-hx]
   exact (show numsOf us.toArray.toList=is from k1.numsOf).symm
  rw [preSum_eq,List.take_of_length_le (Nat.le_of_eq ((List.length_map _).trans Array.length_toList)),<-e1]
  exact ⟨_,_,R,hp,After.keepAll P hk,.int _ _⟩
 | _=>exact .no
theorem min_if (i j:Int):min i j=if j < i then j else i:=by split <;> omega
theorem max_if (i j:Int):max i j=if j>i then j else i:=by split <;> omega
theorem sim_mm {f:Int->Int->Int} {v:Value} (ra:VRel s.heap R a x) (rb:VRel s.heap R b y)
  (h:∀ i j t u,a=.int i t->b=.int j u->SimAt Γ VRel (call v [.int i t,.int j u]) (fun Q _=>Q (.int (f i j)) st) s R) :
  SimAt Γ VRel (call v [a,b]) (fun Q _=>x.isInt fun i=>y.isInt fun j=>Q (.int (f i j)) st) s R:=by
 refine .isInt fun i e=>.isInt fun j f=>?_
 subst e f
 obtain ⟨t,rfl⟩:=ra.int_v
 obtain ⟨u,rfl⟩:=rb.int_v
 exact h i j t u rfl rfl
theorem sim_sorted (hh:Γ.A.handled=none) (P:Pre Γ s R st) (r:VRel s.heap R a x):SimAt Γ VRel (call (.builtin "sorted") [a]) (fun Q _=>primP .sorted [x] st Q) s R:=by
 refine .isBytes fun b e=>.and fun hz=>?_
 subst e
 obtain ⟨t,rfl,_⟩:=r.bytes_v
 refine .rule fun Q E hp=>Calls.call_function_entry kind_sorted plain_sorted entry_sorted (args_sorted1 _) ?_
 unfold Builtin.«sorted»
 have hz':b.length<=sizeLine:=Nat.le_trans (Nat.le_of_lt hz) (by decide +kernel)
 refine wpAny_bind (m:=checkCount "sorted" 1 1 _) (wpAny_pure (wpAny_bind (by_collect hh hz' fun h' tk acc' hk hacc=>?_)))
 have hl:acc'.toList.length=b.length:=by rw [Array.length_toList,hacc.1,List.size_toArray]
 refine wpAny_bind (wpAny_newList ?_ (hl▸hz'))
 have hoL:(h'.push (seqObj "list" acc'.toList.toArray 0)).get? h'.objs.size=some (seqObj "list" acc'.toList.toArray 0):=Heap.get?_push_size _ rfl
 refine wpAny_bind (wpAny_holding (wpAny_call_entry slot_list_sort ⟨_,hoL,rfl⟩ entry_list_sort (list_sort_tree hoL (by_ints hacc) (hl.symm▸hz) fun out ns' a1 a2 a3=>⟨_,rfl,wpAny_pure ⟨_,rfl,?_⟩⟩) (args_list_sort _)))
 have hD:s.heap.get? h'.objs.size=none:=Option.eq_none_iff_forall_ne_some.mpr fun _ q=>Nat.lt_irrefl _ (Heap.lt_size (hk _ _ q))
 have hks:∀ b o,s.heap.get? b=some o->(sortedHeap (h'.push (seqObj "list" acc'.toList.toArray 0)) h'.objs.size acc'.toList out).get? b=some o:=fun b o e=>by
  have hb:b < h'.objs.size:=Heap.lt_size (hk _ _ e)
  rw [sortedHeap_old (Nat.ne_of_lt hb) (by rw [size_push'];exact Nat.lt_succ_of_lt hb),Heap.get?_push_ne _ _ _ (Nat.ne_of_lt hb)]
  exact hk _ _ e
 obtain ⟨e,he⟩:=sortedHeap_at (out:=out) hoL
 have hv:VRels s.heap R out.toList ((sortI (b.map fun x=>(x.toNat:Int))).map .int):=sortI_eq a2 a3▸vrels_ints a1
 have hw:((sortI (b.map fun x=>(x.toNat:Int))).map AV.int).length<=LIM:=by
  rw [List.length_map,(sortI_perm _).length_eq,List.length_map]
  exact Nat.le_trans (Nat.le_of_lt hz) (by decide)
 exact ⟨_,_,_,hp,After.alloc (D:=h'.objs.size) (a:=h'.objs.size) P hks hD hD ⟨out.toList,e,rfl,hw,he,hv.mono (keeps9_app hks)⟩,newRefV P⟩
noncomputable def primVal:Prim->Value
 | .len=>.builtin "len"|.bytes=>.type "bytes"|.bytearray=>.type "bytearray"|.tuple=>.type "tuple"|.sum=>.builtin "sum"|.min=>.builtin "min"|.max=>.builtin "max"
 | .range=>.type "range"|.sorted=>.builtin "sorted"
theorem sim_prim {p:Prim} {vs:List Value} {as:List AV} (hh:Γ.A.handled=none) (K:FxOk Γ.X) (P:Pre Γ s R st) (r:VRels s.heap R vs as) :
  SimAt Γ VRel (call (primVal p) vs) (fun Q _=>primP p as st Q) s R:=by
 have one:∀ {f:AV->PT AV} {v:Value},(∀ a x,VRel s.heap R a x->SimAt Γ VRel (call v [a]) (f x) s R)->SimAt Γ VRel (call v vs) (fun Q E=>oneP as fun a=>f a Q E) s R:=fun {f v} h=>.one fun x e=>by
  subst e
  obtain ⟨a,rfl,q⟩:=r.inv1
  exact h a x q
 have two:∀ {f:AV->AV->PT AV} {v:Value},(∀ a b x y,VRel s.heap R a x->VRel s.heap R b y->SimAt Γ VRel (call v [a,b]) (f x y) s R)->SimAt Γ VRel (call v vs) (fun Q E=>twoP as fun a b=>f a b Q E) s R:=fun {f v} h=>.two fun x y e=>by
  subst e
  obtain ⟨a,us,rfl,q,r'⟩:=r.inv
  obtain ⟨b,rfl,q'⟩:=r'.inv1
  exact h a b x y q q'
 cases p with
 | len=>exact one fun a x q=>sim_len P q
 | bytes=>exact one fun a x q=>sim_bytesOf hh P q
 | bytearray =>
  refine .and fun e=>?_
  subst e
  obtain rfl:=r.inv0
  exact sim_bytearray P
 | tuple=>exact one fun a x q=>sim_tupleOf P q
 | sum=>exact one fun a x q=>sim_sum hh K P q
 | min=>exact two fun a b x y q q'=>sim_mm (f:=min) q q' fun i j t u _ _=>.rule fun Q E hq=>min_two_ints hh fun h' tk hk=>⟨_,_,R,hq,After.keepAll P hk,by rw [min_if];split <;> exact .int _ _⟩
 | max=>exact two fun a b x y q q'=>sim_mm (f:=max) q q' fun i j t u _ _=>.rule fun Q E hq=>max_two_ints hh fun h' tk hk=>⟨_,_,R,hq,After.keepAll P hk,by rw [max_if];split <;> exact .int _ _⟩
 | range =>
  refine one fun a x q=>.nt fun n e=>.and fun z=>?_
  subst e
  obtain ⟨t,rfl⟩:=q.int_v
  exact .rule fun Q E hq=>call_range_1 ⟨_,_,R,hq,After.push P,.rng z (Heap.get?_push_size _ rfl)⟩
 | sorted=>exact one fun a x q=>sim_sorted hh P q
end
end Ab
end
section
namespace Ab
open PySem PySem.W PySem.Calls PyProof.Rows PyProof.Rows.TI
section
variable {Γ:Cx} {s s' s'':Shared} {R R' R'':Reg} {st st' st'':St} {h h':Heap} {H:AH} {a b:Value} {x y:AV} {C:Call}
theorem sim_loc {i:Nat} {n:String} (P:Pre Γ s R st) (K:FxOk Γ.X) (hi:Γ.X.names[i]?=some n) (hl:Γ.X.env.scope.names.lookup (Str.ofString n)=some .local) (hv:st.fr[i]?=some (some x)) :
  SimAt Γ VRel (loadName Γ.X.env (Str.ofString n)) (fun Q _=>Q x st) s R:=by
 obtain ⟨m,hm,hf⟩:=P.fr.ns
 obtain ⟨v,e1,e2⟩:=hf i n x hi hv hl
 exact .rule fun Q E hp=>wpAny_loadName_local K.kind hl hm e1 ⟨x,st,R,hp,.refl P,e2⟩
theorem sim_cel {i:Nat} {n:String} (P:Pre Γ s R st) (K:FxOk Γ.X) (hi:Γ.X.names[i]?=some n) (hl:isCellK (Γ.X.env.scope.names.lookup (Str.ofString n))) (hv:st.fr[i]?=some (some x)) (hn:(Str.ofString n==("__classdict__":Str))=false) :
  SimAt Γ VRel (loadName Γ.X.env (Str.ofString n)) (fun Q _=>Q x st) s R:=by
 obtain ⟨c,o,ov,e,g,d,r⟩:=P.fr.cel i n hi hl
 obtain ⟨v,rfl,e8⟩:=r x hv
 refine .rule fun Q E hp=>?_
 have fin:Lift Γ VRel s R Q v s:=⟨x,st,R,hp,.refl P,e8⟩
 exact hl.elim (fun hl=>wpAny_loadName_cell K.kind hl e ⟨o,g,d⟩ fin) fun hl=>wpAny_loadName_free K.kind hl e ⟨o,g,d⟩ fin hn
theorem get_fr:∀ {i:Nat} {fr:List (Option AV)} {k:AV->Prop},getFr i fr k->∃ v,fr[i]?=some (some v)/\k v:=by
 intro i
 induction i with
 | zero =>
  intro fr k h
  cases fr with
  | nil=>exact h.elim
  | cons o r =>
   cases o with
   | none=>exact h.elim
   | some v=>exact ⟨v,rfl,h⟩
 | succ i ih =>
  intro fr k h
  cases fr with
  | nil=>exact h.elim
  | cons o r=>exact ih (fr:=r) h
theorem set_fr {v:AV}:∀ {i:Nat} {fr:List (Option AV)} {k:List (Option AV)->Prop},setFr v i fr k->i < fr.length/\k (fr.set i (some v)):=by
 intro i
 induction i with
 | zero =>
  intro fr k h
  cases fr with
  | nil=>exact h.elim
  | cons o r=>exact ⟨Nat.succ_pos _,h⟩
 | succ i ih =>
  intro fr k h
  cases fr with
  | nil=>exact h.elim
  | cons o r=>have q:=ih (fr:=r) (k:=fun r=>k (o::r)) h;exact ⟨Nat.succ_lt_succ q.1,q.2⟩
theorem SimAt.getFr {α β:Type} {rel:Rl β α} {t:Sem β} {i:Nat} {fr:List (Option AV)} {k:AV->PT α} (h:∀ v,fr[i]?=some (some v)->SimAt Γ rel t (k v) s R):SimAt Γ rel t (fun Q E=>getFr i fr fun v=>k v Q E) s R:=fun Q E hp =>
 (get_fr hp).elim fun v q=>h v q.1 Q E q.2
theorem sim_Name {n:Str} {pos:Pos} {p:PT AV} (hd:(n==("__debug__":Str))=false) (h:SimAt Γ VRel (loadName Γ.X.env n) p s R):SimAt Γ VRel (eval (.Name n pos) Γ.X.env) p s R:=by
 rw [eval_Name Γ.X.env n pos hd]
 exact .standAt h
theorem sim_global {n:Str} {v:Value} (P:Pre Γ s R st) (K:FxOk Γ.X) (hg:Γ.G.B.Ns mainGlobals Γ.G.mg) (hx:Γ.X.env.scope.names.lookup n=some .globalImplicit) (hv:Γ.G.mg n=some v) (r:VRel s.heap R v x) :
  SimAt Γ VRel (loadName Γ.X.env n) (fun Q _=>Q x st) s R:=by
 refine .rule fun Q E hp=>?_
 have e:loadName Γ.X.env n=loadGlobal Γ.X.env n:=by
  unfold loadName
  simp only [Env.blockKind,K.kind,show Γ.X.env.kindOf n=some .globalImplicit from hx,ScopeKind.isAnnotationScope,Bool.false_and,Bool.false_eq_true,if_false]
 rw [e]
 exact loadGlobal_global (K.globals▸hg.keeps P.sat.keep) hv ⟨x,st,R,hp,.refl P,r⟩
theorem wpP_globalV {n:Str} {v:Value} {Q:Value->Shared->Prop} {E:Value->Shared->Prop} {pos:Pos} (P:Pre Γ s R st) (K:FxOk Γ.X) (hg:Γ.G.B.Ns mainGlobals Γ.G.mg) (hx:Γ.X.env.scope.names.lookup n=some .globalImplicit) (hd:(n==("__debug__":Str))=false)
  (hv:Γ.G.mg n=some v) (h:Q v s):wpP Γ.M Γ.A (eval (.Name n pos) Γ.X.env) Q E s :=
 wpP_of (Name_function_global K.kind hx (loadGlobal_global (K.globals▸hg.keeps P.sat.keep) hv h) hd)
theorem wpP_builtinV {n:Str} {v:Value} {Q:Value->Shared->Prop} {E:Value->Shared->Prop} {pos:Pos} (P:Pre Γ s R st) (K:FxOk Γ.X) (hg:Γ.G.B.Ns mainGlobals Γ.G.mg) (hb:Γ.G.B.Ns builtinsNs Γ.G.mb) (hx:Γ.X.env.scope.names.lookup n=some .globalImplicit) (hd:(n==("__debug__":Str))=false)
  (hn:Γ.G.mg n=none) (hv:Γ.G.mb n=some v) (h:Q v s):wpP Γ.M Γ.A (eval (.Name n pos) Γ.X.env) Q E s :=
 wpP_of (Name_function_global K.kind hx (loadGlobal_builtin (K.globals▸hg.keeps P.sat.keep) hn (K.builtins▸hb.keeps P.sat.keep) hv h) hd)
def BoolRel:Rl Bool Bool:=fun _ _ b a=>b=a
theorem sim_truthy (P:Pre Γ s R st) (r:VRel s.heap R a x):SimAt Γ BoolRel (truthy a) (fun Q _=>x.isBool fun b=>Q b st) s R:=.isBool fun i e=>by
 subst e
 obtain rfl:=r.bool_v
 exact .leaf P fun k=>wpAny_pure (k _ _ rfl)
theorem sim_not (P:Pre Γ s R st) (r:VRel s.heap R a x):SimAt Γ VRel (unaryOp .Not a) (fun Q _=>x.isBool fun b=>Q (.bool (!b)) st) s R:=.isBool fun i e=>by
 subst e
 obtain rfl:=r.bool_v
 exact .leaf P fun k=>not_value (wpAny_pure (k _ _ (.bool _)))
theorem sim_two {l r:Expr} {p:PT AV} {q:St->PT AV} {f:AV->AV->St->PT AV} {t:Value->Value->Sem Value} (hl:SimAt Γ VRel (eval l Γ.X.env) p s R)
  (hr:∀ s1 st1 R1,Pre Γ s1 R1 st1->SimAt Γ VRel (eval r Γ.X.env) (q st1) s1 R1) (ht:∀ s R st a b x y,Pre Γ s R st->VRel s.heap R a x->VRel s.heap R b y->SimAt Γ VRel (t a b) (f x y st) s R) :
  SimAt Γ VRel (eval l Γ.X.env >>= fun a=>PySem.holding [a] (eval r Γ.X.env) >>= fun b=>t a b) (fun Q E=>p (fun a st=>q st (fun b st=>f a b st Q E) E) E) s R :=
 SimAt.bind (g:=fun a st Q E=>q st (fun b st=>f a b st Q E) E) hl fun v1 s1 a st1 R1 af1 r1=>SimAt.bind (g:=fun b st=>f a b st) (hr s1 st1 R1 af1.pre).holding fun v2 s2 b st2 R2 af2 r2=>ht _ _ _ _ _ _ _ af2.pre (r1.mono (af2.keeps9 af1.pre)) r2
theorem sim_BinOp {l r:Expr} {el er:AE} {op:Operator} {pos:Pos} {p:Nat} (hl:SimAt Γ VRel (eval l Γ.X.env) (vE T C el st) s R)
  (hr:∀ s1 st1 R1,Pre Γ s1 R1 st1->SimAt Γ VRel (eval r Γ.X.env) (vE T C er st1) s1 R1):SimAt Γ VRel (eval (.BinOp l op r pos) Γ.X.env) (vE T C (.bin op el er p) st) s R:=by
 rw [arm_eval_BinOp]
 exact sim_two (f:=fun a b st Q _=>binP op a b st Q) hl hr fun s R st a b x y P ra rb=>.standAt (.operate (sim_bin P ra rb))
theorem sim_Not {e:Expr} {ee:AE} {pos:Pos} {p:Nat} (h:SimAt Γ VRel (eval e Γ.X.env) (vE T C ee st) s R):SimAt Γ VRel (eval (.UnaryOp .Not e pos) Γ.X.env) (vE T C (.not ee p) st) s R:=by
 rw [arm_eval_UnaryOp]
 refine SimAt.bind (p:=vE T C ee st) (g:=fun a st (Q:KV) _=>a.isBool fun b=>Q (AV.bool (!b)) st) h fun v s1 a st1 R1 af1 r1=>?_
 exact .standAt (.holding (sim_not af1.pre r1))
theorem sim_Compare {l r:Expr} {el er:AE} {op:CmpOp} {pos:Pos} {p:Nat} (hu:Γ.A.units + 8 < cLine) (hm:behindInMarks op r=false) (hl:SimAt Γ VRel (eval l Γ.X.env) (vE T C el st) s R)
  (hr:∀ s1 st1 R1,Pre Γ s1 R1 st1->SimAt Γ VRel (eval r Γ.X.env) (vE T C er st1) s1 R1):SimAt Γ VRel (eval (.Compare l [op] [r] pos) Γ.X.env) (vE T C (.cmp op el er p) st) s R:=by
 rw [eval_Compare1,markedBehindIn_of_false hm]
 exact sim_two (f:=fun a b st Q _=>cmpP op a b st.H fun r=>Q (.bool r) st) hl hr fun s R st a b x y P ra rb=>.standAt (.operate (sim_cmp P hu ra rb))
theorem sim_CompareT {l r:Expr} {el er:AE} {op:CmpOp} {pos:Pos} {p:Nat} (hu:Γ.A.units + 8 < cLine) (hm:behindInMarks op r=false) (hl:SimAt Γ VRel (eval l Γ.X.env) (vE T C el st) s R)
  (hr:∀ s1 st1 R1,Pre Γ s1 R1 st1->SimAt Γ VRel (eval r Γ.X.env) (vE T C er st1) s1 R1) :
  SimAt Γ BoolRel (isTrue (.Compare l [op] [r] pos) Γ.X.env (eval (.Compare l [op] [r] pos) Γ.X.env)) (fun Q E=>vE T C (.cmp op el er p) st (fun v st=>v.isBool fun b=>Q b st) E) s R:=by
 rw [isTrue_Compare1,markedBehindIn_of_false hm]
 refine SimAt.bind (p:=vE T C el st) (g:=fun a st Q E=>vE T C er st (fun b st=>cmpP op a b st.H fun r=>Q r st) E) hl fun v1 s1 a st1 R1 af1 r1=>?_
 refine SimAt.bind (g:=fun b st Q _=>cmpP op a b st.H fun r=>Q r st) (hr s1 st1 R1 af1.pre).holding fun v2 s2 b st2 R2 af2 r2=>.standAt ?_
 refine SimAt.bind (p:=fun Q _=>cmpP op a b st2.H fun r=>Q (.bool r) st2) (g:=fun v st Q _=>v.isBool fun b=>Q b st) (.operate (sim_cmp af2.pre hu (r1.mono (af2.keeps9 af1.pre)) r2)) fun v3 s3 c st3 R3 af3 r3=>.holding (sim_truthy af3.pre r3)
end
end Ab
end
section
namespace Ab
open PySem PySem.W PySem.Calls PyProof.Rows PyProof.Rows.TI
section
variable {Γ:Cx} {s s' s'':Shared} {R R' R'':Reg} {st st' st'':St} {h h':Heap} {H:AH} {a b:Value} {x y:AV} {C:Call}
theorem subscripted_false (slice:Expr) (o i:Value):∃ vs,subscripted slice false o i=operate vs (getItem o i):=by
 unfold subscripted
 split
 ·exact ⟨_,rfl⟩
 ·rename_i q;cases q
 ·exact ⟨_,rfl⟩
inductive HasItems (s:Shared) (o:Value):Prop
 | mk (T id:String) (t:s.TypeIs o T) (l:typeLookup (.type T) "__getitem__"=pure (some (.builtin id)))
theorem sim_tail {value slice:Expr} {o i:Value} {p:PT AV} (hi:HasItems s o) (h:SimAt Γ VRel (getItem o i) p s R):SimAt Γ VRel (subscriptTail value slice o i) p s R:=fun Q E hp=>by
 obtain ⟨T,id,hT,hl⟩:=hi
 unfold subscriptTail
 obtain ⟨vs,e⟩:=subscripted_false slice o i
 refine wpP_bind (wpP_of ?_)
 rw [getitemInPython_of_ne hT.not_modules]
 refine wpAny_bind (wpAny_specialOf hT hl ?_)
 have fin:=SimAt.skipPure (t:=PySem.operate vs (getItem o i)) (k:=fun r=>letTemporaryGo value o r) (fun v s h=>wpAny_letTemporaryGo h) h.operate Q E hp
 rw [<-e] at fin
 first
  | exact wpAny_pure fin
  | exact wpAny_bind (wpAny_pure fin)
theorem seqIndex_nat {n k:Nat} (h:n < k):seqIndex? (n:Int) k=some n:=by
 unfold seqIndex?
 simp only [if_neg (Int.not_lt.mpr (Int.natCast_nonneg n))]
 rw [if_pos (by simp only [Bool.and_eq_true,decide_eq_true_eq];omega)]
 rfl
theorem lim63 {n:Nat} (h:n < LIM):(n:Int) < 2 ^ 63:=Int.lt_trans (Int.ofNat_lt.mpr h) (by decide)
theorem at_lt {α:Type} {xs:List α} {n:Nat} {x:α} (e:xs[n]?=some x) (z:xs.length<=LIM):n < LIM:=Nat.lt_of_lt_of_le (List.getElem?_eq_some_iff.mp e).1 z
theorem hasItems (P:Pre Γ s R st) (ra:VRel s.heap R a x) {k:AV->Prop} (hp:subP x y st.H k):HasItems s a:=by
 obtain ⟨n,_,hp⟩:=Nt.elim hp
 cases x with
 | bytes b=>obtain ⟨t,rfl,_⟩:=ra.bytes_v;exact ⟨"bytes",_,typeIs_bytes _ _ _,FB.slot_bytes_getitem.lookup⟩
 | tup xs=>obtain ⟨p,us,rfl,t,_,_⟩:=ra.tup_v;exact t.elim fun o q=>q.elim fun n q=>⟨"tuple",_,⟨o,q.1,q.2.1⟩,F.slot_tuple_getitem.lookup⟩
 | ref l =>
  obtain ⟨xs,h1,_⟩:=hp
  obtain ⟨p,us,n,rfl,_,_,g,_⟩:=P.lst ra h1
  exact ⟨"list",_,(isList g).typeIs,slot_list_getitem.lookup⟩
 | _=>exact hp.elim
theorem sim_getItem (P:Pre Γ s R st) (ra:VRel s.heap R a x) (rb:VRel s.heap R b y):SimAt Γ VRel (getItem a b) (fun Q _=>subP x y st.H fun r=>Q r st) s R:=by
 refine .nt fun n e=>?_
 subst e
 obtain ⟨u,rfl⟩:=rb.int_v
 cases x with
 | bytes bs =>
  refine .at fun c h1=>?_
  obtain ⟨t,rfl,z⟩:=ra.bytes_v
  refine .leaf P fun k=>getItem_bytes (Nat.le_trans (show bs.toArray.size<=LIM from z) (by decide)) (Int.natCast_nonneg n) (Int.ofNat_lt.mpr (List.getElem?_eq_some_iff.mp h1).1) ?_
  rw [Int.toNat_natCast,List.getD_eq_getElem?_getD,h1]
  exact k _ _ (.int _ _)
 | tup xs =>
  refine .at fun c h1=>?_
  obtain ⟨p,us,rfl,t,z,r⟩:=ra.tup_v
  obtain ⟨v,e1,rv⟩:=r.get h1
  exact .leaf P fun k=>PyProof.Rows.getItem_tuple (x:=v) (isTuple_of t) (Int.le_trans (by decide) (Int.natCast_nonneg n)) (lim63 (at_lt h1 z)) (seqIndex_nat (by rw [List.size_toArray];exact (List.getElem?_eq_some_iff.mp e1).1)) (by rw [List.getElem?_toArray];exact e1) (k _ s.toks rv)
 | ref l =>
  refine .lst fun xs h0=>.at fun c h1=>?_
  obtain ⟨p,us,m,rfl,_,z,g,r⟩:=P.lst ra h0
  obtain ⟨v,e1,rv⟩:=r.get h1
  exact .leaf P fun k=>wpAny_getItem_list (x:=v) (isList g) (Int.natCast_nonneg n) (lim63 (at_lt h1 z)) (by rw [List.getElem?_toArray];exact e1) (k _ s.toks rv)
 | _=>exact .no
theorem sim_Subscript {o i:Expr} {eo ei:AE} {p q:Nat} {L:Nat} {N:List String} (ho:o=toE L eo N) (hl:SimAt Γ VRel (eval o Γ.X.env) (vE T C eo st) s R)
  (hr:∀ s1 st1 R1,Pre Γ s1 R1 st1->SimAt Γ VRel (eval i Γ.X.env) (vE T C ei st1) s1 R1):SimAt Γ VRel (eval (.Subscript o i (dp L p)) Γ.X.env) (vE T C (.sub eo ei p) st) s R:=by
 rw [eval_Subscript]
 exact sim_two (f:=fun a b st Q _=>subP a b st.H fun r=>Q r st) hl hr fun s R st a b x y P ra rb=>.standAt fun Q E hp=>sim_tail (value:=o) (slice:=i) (hasItems P ra hp) (sim_getItem P ra rb) Q E hp
inductive BndV (v:Value) (d n:Nat):Prop
 | no (e:IsPart v none) (g:n=d)
 | at (m:Nat) (e:IsPart v (some (m:Int))) (g:n=m) (z:m < 1152921504606846976)
theorem bnd_v {v:Value} {d:Nat} {k:Nat->Prop} (r:VRel h R v x) (hp:bndP x d k):∃ n,BndV v d n/\k n:=by
 cases x with
 | none =>
  obtain rfl:=r.none_v
  exact ⟨d,.no .none rfl,hp⟩
 | int i =>
  obtain ⟨n,e,z,hk⟩:=Nt.elim (a:=AV.int i) (k:=fun n=>n < 1152921504606846976/\k n) hp
  cases e
  obtain ⟨t,rfl⟩:=r.int_v
  exact ⟨n,.at n (.int _ _) rfl z,hk⟩
 | _=>exact hp.elim
theorem cut_eq {α:Type} (xs:List α) (x y:Nat):(xs.drop (min x xs.length)).take (min y xs.length - min x xs.length)=cutL xs x y:=by
 unfold cutL
 rw [<-List.drop_take]
 by_cases hy:y<=xs.length
 ·rw [Nat.min_eq_left hy]
  by_cases hx:x<=xs.length
  ·rw [Nat.min_eq_left hx]
  ·rw [Nat.min_eq_right (Nat.le_of_lt (Nat.not_le.mp hx)),List.drop_of_length_le,List.drop_of_length_le] <;> rw [List.length_take] <;> omega
 ·rw [Nat.min_eq_right (Nat.le_of_lt (Nat.not_le.mp hy)),List.take_of_length_le (Nat.le_refl _),List.take_of_length_le (Nat.le_of_lt (Nat.not_le.mp hy))]
  by_cases hx:x<=xs.length
  ·rw [Nat.min_eq_left hx]
  ·rw [Nat.min_eq_right (Nat.le_of_lt (Nat.not_le.mp hx)),List.drop_of_length_le (Nat.le_refl _),List.drop_of_length_le (Nat.le_of_lt (Nat.not_le.mp hx))]
theorem cut_len {α:Type} (xs:List α) (x y:Nat):(cutL xs x y).length<=xs.length:=by
 unfold cutL
 rw [List.length_drop,List.length_take];omega
inductive PartsV (l u:Value) (n x y:Nat):Prop
 | mk (lo hi:Option Int) (pl:IsPart l lo) (pu:IsPart u hi) (cl:lo.elim 0 (clipAt n)=min x n) (cu:hi.elim n (clipAt n)=min y n) (b:sliceBounds lo hi none n=(((min x n:Nat):Int),((min y n:Nat):Int),1))
theorem parts_v {l u:Value} {n i j:Nat} (h1:BndV l 0 i) (h2:BndV u n j):PartsV l u n i j:=by
 have c:∀ m:Nat,clipAt n (m:Int)=min m n:=fun m=>by unfold clipAt;rw [if_neg (Int.not_lt.mpr (Int.natCast_nonneg m))];omega
 have b:∀ m:Nat,(if (m:Int) < 0 then max ((m:Int) + n) 0 else min (m:Int) n)=((min m n:Nat):Int):=fun m=>by rw [if_neg (Int.not_lt.mpr (Int.natCast_nonneg m))];omega
 cases h1 with
 | no e1 g1 =>
  subst g1
  cases h2 with
  | no e2 g2=>subst g2;exact ⟨_,_,e1,e2,by simp,by simp,by simp [sliceBounds]⟩
  | «at» m e2 g2 z2=>subst g2;exact ⟨_,_,e1,e2,by simp,c j,by simp only [sliceBounds,Option.getD_none,show (1:Int)>0 by decide,if_true];rw [Nat.zero_min];congr 2;have:=b j;omega⟩
 | «at» m e1 g1 z1 =>
  subst g1
  cases h2 with
  | no e2 g2=>subst g2;exact ⟨_,_,e1,e2,c i,by simp,by simp only [sliceBounds,Option.getD_none,show (1:Int)>0 by decide,if_true];rw [Nat.min_self];congr 1;have:=b i;omega⟩
  | «at» k e2 g2 z2=>subst g2;exact ⟨_,_,e1,e2,c i,c j,by simp only [sliceBounds,Option.getD_none,show (1:Int)>0 by decide,if_true];congr 1 <;> (try congr 1) <;> (have:=b i;have:=b j;omega)⟩
theorem VRels.cut {vs:List Value} {as:List AV} (r:VRels h R vs as) (x y:Nat):VRels h R (cutL vs x y) (cutL as x y):=by
 unfold cutL
 refine ⟨by rw [List.length_drop,List.length_drop,List.length_take,List.length_take,r.len],fun i v a e1 e2=>?_⟩
 rw [List.getElem?_drop,List.getElem?_take] at e1 e2
 by_cases hi:x + i < y
 ·rw [if_pos hi] at e1 e2
  exact r.ix _ _ _ e1 e2
 ·rw [if_neg hi] at e1;cases e1
inductive SlV (h:Heap) (R:Reg) (b:Value) (p:AV×AV):Prop
 | mk (a:Addr) (l u:Value) (e:b=.ref a) (t:h.IsSliceOf a l u .none) (rl:VRel h R l p.1) (ru:VRel h R u p.2)
theorem has_bytes {b:Array UInt8} {t:Tok}:HasItems s (.bytes b t):=⟨"bytes",_,typeIs_bytes _ _ _,FB.slot_bytes_getitem.lookup⟩
theorem has_list {a:Addr} {us:Array Value} {n:Nat} (g:s.heap.get? a=some (listOf us n)):HasItems s (.ref a):=⟨"list",_,(isList g).typeIs,slot_list_getitem.lookup⟩
theorem slc_list {a sa:Addr} {us:List Value} {xs:List AV} {n i j:Nat} {l u:Value} {Q:KV} {E:KX} (P:Pre Γ s R st) (hs:s.heap.IsSliceOf sa l u .none) (b1:BndV l 0 i) (b2:BndV u xs.length j) (g:s.heap.get? a=some (listOf us.toArray n)) (r:VRels s.heap R us xs) (z:xs.length<=LIM)
  (hp:Q (.ref st.H.length) ⟨st.fr,st.H++[.list (cutL xs i j)]⟩):wpAny Γ.M Γ.A (getItem (.ref a) (.ref sa)) (Lift Γ VRel s R Q) (LiftE Γ s R E) s:=by
 rw [<-r.len] at b2
 obtain ⟨lo,hi,pl,pu,_,_,e⟩:=parts_v b1 b2
 refine wpAny_getItem_list_slice (isList g) hs pl pu .none (by simp) ?_ (r.line z)
 rw [kmk_pick_nat _ (by rw [List.size_toArray];exact e)]
 rw [show (us.toArray.toList.drop (min i us.length)).take (min j us.length - min i us.length)=cutL us i j from cut_eq us i j]
 exact list_made (n:=0) P (r.cut i j) (Nat.le_trans (cut_len xs i j) z) hp
theorem sim_getSlice {v:Value} {p:AV×AV} (P:Pre Γ s R st) (ra:VRel s.heap R a x) (rv:SlV s.heap R v p):SimAt Γ VRel (getItem a v) (fun Q _=>slcP x p.1 p.2 st Q) s R:=fun Q E hp=>by
 obtain ⟨sa,l,u,rfl,hs,rl,ru⟩:=rv
 cases x with
 | bytes bs =>
  obtain ⟨t,rfl,z⟩:=ra.bytes_v
  obtain ⟨i,b1,hp⟩:=bnd_v (k:=fun x=>bndP p.2 bs.length fun y=>Q (.bytes (cutL bs x y)) st) rl hp
  obtain ⟨j,b2,hp⟩:=bnd_v ru hp
  obtain ⟨lo,hi,pl,pu,cl,cu,_⟩:=parts_v b1 b2
  refine wpP_of (getItem_meets (typeIs_bytes _ _ _) (by decide) FB.slot_bytes_getitem FB.entry_bytes_getitem (FB.args_bytes_getitem_2 _ _) (KBc.meets_slice2 bs.toArray t _ pl pu) ⟨hs,Nat.le_trans (KBc.size_picked_le _ lo hi) (by rw [List.size_toArray];exact Nat.le_trans z LIM_line),fun t' tk=>?_⟩)
  rw [KBc.picked_eq,List.size_toArray,cl,cu,cut_eq]
  exact ⟨_,_,R,hp,After.toks P,.bytes _ _ (Nat.le_trans (cut_len bs i j) z)⟩
 | ref m =>
  rcases hp with ⟨xs,h1,hp⟩|⟨its,xs,h1,hp⟩
  ·obtain ⟨p,us,n,rfl,_,z,g,r⟩:=P.lst ra h1
   obtain ⟨i,b1,hp⟩:=bnd_v rl hp
   obtain ⟨j,b2,hp⟩:=bnd_v ru hp
   exact wpP_of (slc_list P hs b1 b2 g r z hp)
  ·obtain ⟨a,b,rfl,g⟩:=ra.ref_v
   obtain ⟨e1,z,g,r⟩:=P.sat.at g h1
   obtain rfl:a=b:=e1
   obtain ⟨i,b1,hp⟩:=bnd_v rl hp
   obtain ⟨j,b2,hp⟩:=bnd_v ru hp
   exact wpP_of (slc_list P hs b1 b2 g r z hp)
 | _=>exact hp.elim
theorem slc_has {p:AV×AV} {Q:KV} (P:Pre Γ s R st) (ra:VRel s.heap R a x) (hp:slcP x p.1 p.2 st Q):HasItems s a:=by
 cases x with
 | bytes bs=>obtain ⟨t,rfl,_⟩:=ra.bytes_v;exact has_bytes
 | ref m =>
  rcases hp with ⟨xs,h1,hp⟩|⟨its,xs,h1,hp⟩
  ·obtain ⟨p,us,n,rfl,_,z,g,r⟩:=P.lst ra h1;exact has_list g
  ·obtain ⟨a,b,rfl,g⟩:=ra.ref_v
   obtain ⟨e1,z,g,r⟩:=P.sat.at g h1
   obtain rfl:a=b:=e1
   exact has_list g
 | _=>exact hp.elim
theorem sim_Slc {o:Expr} {lo hi:Option Expr} {eo el eh:AE} {p pos:Pos} {k q:Nat} (hl:SimAt Γ VRel (eval o Γ.X.env) (vE T C eo st) s R)
  (h1:∀ s1 st1 R1,Pre Γ s1 R1 st1->SimAt Γ VRel (valueOrNone (evalOpt lo Γ.X.env)) (vE T C el st1) s1 R1)
  (h2:∀ s1 st1 R1,Pre Γ s1 R1 st1->SimAt Γ VRel (valueOrNone (evalOpt hi Γ.X.env)) (vE T C eh st1) s1 R1) :
  SimAt Γ VRel (eval (.Subscript o (.Slice lo hi none p) pos) Γ.X.env) (vE T C (.slc eo el eh k q) st) s R:=by
 rw [eval_Subscript]
 refine SimAt.bind (p:=vE T C eo st) (g:=fun a st Q E=>vE T C el st (fun x st=>vE T C eh st (fun y st=>slcP a x y st Q) E) E) hl fun v1 s1 a st1 R1 af1 r1=>?_
 have key:SimAt Γ SlV (eval (.Slice lo hi none p) Γ.X.env) (fun Q E=>vE T C el st1 (fun x st=>vE T C eh st (fun y st=>Q (x,y) st) E) E) s1 R1:=by
  rw [arm_eval_Slice]
  refine SimAt.bind (g:=fun x st (Q:AV×AV->St->Prop) E=>vE T C eh st (fun y st=>Q (x,y) st) E) (h1 s1 st1 R1 af1.pre) fun v2 s2 x st2 R2 af2 r2=>?_
  refine SimAt.bind (g:=fun y st (Q:AV×AV->St->Prop) _=>Q (x,y) st) (h2 s2 st2 R2 af2.pre).holding fun v3 s3 y st3 R3 af3 r3=>?_
  have k9:=keeps9_h (R:=R3) (h:=s3.heap) (h':=s3.heap.push { cls:=.type "slice",data:=.fields #[v2,v3,.none] }) fun _ _ e=>Heap.get?_push_of_some _ e
  exact fun Q E hp=>wpP_of (wpAny_bind (wpAny_holding (wpAny_pure (wpAny_newObj_type (data:=.fields #[v2,v3,.none]) ⟨_,_,_,hp,After.push (tk:=s3.toks) af3.pre,_,v2,v3,rfl,Heap.IsSliceOf.new ..,((r2.mono (af3.keeps9 af2.pre)).mono k9),r3.mono k9⟩ (show (3:Nat)<=sizeLine + 2 by decide)))))
 refine SimAt.bind (p:=fun Q E=>vE T C el st1 (fun x st=>vE T C eh st (fun y st=>Q (x,y) st) E) E) (g:=fun xy st (Q:KV) _=>slcP a xy.1 xy.2 st Q) key.holding fun v2 s2 xy st2 R2 af2 r2=>?_
 have r1':=r1.mono (af2.keeps9 af1.pre)
 exact .standAt fun Q E hp=>sim_tail (value:=o) (slice:=.Slice lo hi none p) (slc_has af2.pre r1' hp) (sim_getSlice af2.pre r1' r2) Q E hp
end
end Ab
end
section
namespace Ab
open PySem PySem.W PySem.Calls PyProof.Rows PyProof.Rows.TI
theorem isStr_ne {k:Value} {a b:Str} (h:k.isStr a=true) (hne:b≠a):k.isStr b=false:=by
 cases k with
 | str x t=>exact beq_eq_false_iff_ne.mpr fun q=>hne (q.symm.trans (beq_iff_eq.mp h))
 | _=>cases h
theorem isStr_str (a:Str) (t:Tok):(Value.str a t).isStr a=true:=beq_self_eq_true a
def plainKeys (es:List DictEntry):Prop:=es.any (·.refKey)=false
def valOf (es:List DictEntry) (x:Str):Option Value:=(es.find? (·.key.isStr x)).map (·.val)
theorem getL_plain {name:Str} {es:List DictEntry} (h:plainKeys es):getL name es=some (valOf es name):=by
 unfold getL valOf
 cases es.find? (·.key.isStr name) with
 | some x=>rfl
 | none=>dsimp only;rw [show es.any _=false from h];rfl
structure PutOk (es es':List DictEntry) (name:Str) (v:Value):Prop where
 at':valOf es' name=some v
 other:∀ x,x≠name->valOf es' x=valOf es x
 plain:plainKeys es->plainKeys es'
 len:es'.length=if (valOf es name).isSome then es.length else es.length+1
theorem val_hit {e:DictEntry} {r:List DictEntry} {x:Str} (h:e.key.isStr x=true):valOf (e::r) x=some e.val:=by unfold valOf;rw [List.find?,h];rfl
theorem val_miss {e:DictEntry} {r:List DictEntry} {x:Str} (h:e.key.isStr x=false):valOf (e::r) x=valOf r x:=by unfold valOf;rw [List.find?,h]
theorem put_ok (name:Str) (hsh:Int) (t:Tok) (v:Value) (es:List DictEntry):PutOk es (putL name hsh (.str name t) v es) name v:=by
 have k0:=isStr_str name t
 induction es with
 | nil=>exact ⟨val_hit (e:=⟨hsh,.str name t,v⟩) k0,fun x hx=>val_miss (e:=⟨hsh,.str name t,v⟩) (isStr_ne k0 hx),fun _=>rfl,rfl⟩
 | cons e r ih =>
  cases he:e.key.isStr name with
  | true =>
   have e0:putL name hsh (.str name t) v (e::r)={ e with val:=v }::r:=by rw [putL,he];rfl
   rw [e0]
   exact ⟨val_hit (e:={ e with val:=v }) he,fun x hx=>(val_miss (e:={ e with val:=v }) (isStr_ne he hx)).trans (val_miss (isStr_ne he hx)).symm,fun h=>h,by rw [val_hit he];rfl⟩
  | false =>
   have e0:putL name hsh (.str name t) v (e::r)=e::putL name hsh (.str name t) v r:=by rw [putL,he];rfl
   rw [e0]
   refine ⟨(val_miss he).trans ih.at',fun x hx=>?_,fun h=>?_,?_⟩
   ·cases hx':e.key.isStr x with
    | true=>rw [val_hit hx',val_hit hx']
    | false=>rw [val_miss hx',val_miss hx'];exact ih.other x hx
   ·unfold plainKeys at h ⊢
    rw [List.any_cons,Bool.or_eq_false_iff] at h ⊢
    exact ⟨h.1,ih.plain h.2⟩
   ·rw [val_miss he,List.length_cons,List.length_cons,ih.len]
    cases (valOf r name).isSome <;> rfl
theorem fget_fset (a:Nat) (v:AV) (b:Nat):∀ fs,fget b (fset a v fs)=if b=a then some v else fget b fs:=by
 intro fs
 induction fs with
 | nil =>
  show (if a=b then some v else none)=_
  by_cases h:a=b
  ·rw [if_pos h,if_pos h.symm]
  ·rw [if_neg h,if_neg (Ne.symm h)];rfl
 | cons p r ih =>
  show fget b (if p.1=a then (p.1,v)::r else p::fset a v r)=if b=a then some v else (if p.1=b then some p.2 else fget b r)
  by_cases hc:p.1=a
  ·rw [if_pos hc]
   show (if p.1=b then some v else fget b r)=_
   by_cases h:p.1=b
   ·rw [if_pos h,if_pos (h.symm.trans hc)]
   ·rw [if_neg h,if_neg (fun q=>h (hc.trans q.symm)),if_neg h]
  ·rw [if_neg hc]
   show (if p.1=b then some p.2 else fget b (fset a v r))=_
   by_cases h:p.1=b
   ·rw [if_pos h,if_pos h,if_neg (fun q=>hc (h.trans q))]
   ·rw [if_neg h,if_neg h,ih]
theorem len_fset (a:Nat) (v:AV):∀ fs,(fset a v fs).length=if (fget a fs).isSome then fs.length else fs.length+1:=by
 intro fs
 induction fs with
 | nil=>rfl
 | cons p r ih =>
  show (if p.1=a then (p.1,v)::r else p::fset a v r).length=if (if p.1=a then some p.2 else fget a r).isSome then _ else _
  by_cases hc:p.1=a
  ·rw [if_pos hc,if_pos hc];rfl
  ·rw [if_neg hc,if_neg hc,List.length_cons,ih,List.length_cons]
   cases (fget a r).isSome <;> rfl
theorem nm_nodup:nmL.Nodup:=by decide +kernel
theorem nm_inj {a b:Nat} (ha:a < NM) (hb:b < NM) (h:Str.ofString (nm a)=Str.ofString (nm b)):a=b:=by
 have h:=ofString_inj h
 unfold nm at h
 rw [List.getD_eq_getElem?_getD,List.getD_eq_getElem?_getD,List.getElem?_eq_getElem ha,List.getElem?_eq_getElem hb] at h
 exact (List.getElem?_inj ha nm_nodup).mp (by rw [List.getElem?_eq_getElem ha,List.getElem?_eq_getElem hb];exact congrArg some h)
theorem FMap.set {h:Heap} {R:Reg} {es:List DictEntry} {fs:List (Nat×AV)} {a:Nat} {hsh:Int} {t:Tok} {rv:Value} {v:AV} (r:FMap h R es fs) (rl:es.length=fs.length) (ha:a < NM) (x:VRel h R rv v) :
  FMap h R (putL (Str.ofString (nm a)) hsh (.str (Str.ofString (nm a)) t) rv es) (fset a v fs)/\(putL (Str.ofString (nm a)) hsh (.str (Str.ofString (nm a)) t) rv es).length=(fset a v fs).length:=by
 have p:=put_ok (Str.ofString (nm a)) hsh t rv es
 generalize putL (Str.ofString (nm a)) hsh (.str (Str.ofString (nm a)) t) rv es=es' at p
 have hp:plainKeys es:=r.plain
 have hp':=p.plain hp
 have key:∀ b,b < NM->b≠a->getL (Str.ofString (nm b)) es'=getL (Str.ofString (nm b)) es:=fun b hb hne=>by
  rw [getL_plain hp',getL_plain hp,p.other _ fun q=>hne (nm_inj hb ha q)]
 refine ⟨⟨fun b w hb e=>?_,fun b hb e=>?_,hp'⟩,?_⟩
 ·rw [fget_fset] at e
  by_cases hq:b=a
  ·rw [if_pos hq] at e;cases e
   exact ⟨rv,by rw [hq,getL_plain hp',p.at'],x⟩
  ·rw [if_neg hq] at e
   rw [key b hb hq];exact r.sm b w hb e
 ·rw [fget_fset] at e
  by_cases hq:b=a
  ·rw [if_pos hq] at e;cases e
  ·rw [if_neg hq] at e
   rw [key b hb hq];exact r.nn b hb e
 ·rw [p.len,len_fset,rl]
  cases hf:fget a fs with
  | none =>
   have:=r.nn a ha hf
   rw [getL_plain hp] at this
   rw [Option.some.inj this];rfl
  | some y =>
   obtain ⟨z,e,_⟩:=r.sm a y ha hf
   rw [getL_plain hp] at e
   rw [Option.some.inj e];rfl
section
variable {Γ:Cx} {s s' s'':Shared} {R R' R'':Reg} {st st' st'':St} {h h':Heap} {H:AH} {a b:Value} {x y:AV} {C:Call}
theorem Sat.upd2_keeps9 (x:Sat Γ R h H) {D L:Addr} (hL:L∈Γ.X.own) (e:D∈R.map (·.2)) (hk:∀ b o,b≠L->b≠D->h.get? b=some o->h'.get? b=some o):Keeps9 h R h' R where
 tup a vs:=fun ⟨o,n,g,hc,hd⟩=>have f:=x.free_tup g hc hd;⟨o,n,hk a o (fun q=>f.2 (q▸hL)) (fun q=>f.1 (q▸e)) g,hc,hd⟩
 rng a _ _ _ _ _ _ r:=have f:=x.free_fields r rfl;hk a _ (fun q=>f.2 (q▸hL)) (fun q=>f.1 (q▸e)) r
 reg _ _ e:=e
theorem After.butFrameUpd {tk:Nat} {m:Str->Option Value} {l:Nat} {p:Addr×Addr} {o':AObj} {b':Obj} (P:Pre Γ s R st) (K:FxOk Γ.X) (hm:s.heap.Ns Γ.X.env.locals m) (hm':h'.Ns Γ.X.env.locals m)
  (hk:∀ b o,b≠Γ.X.env.locals->b≠p.2->s.heap.get? b=some o->h'.get? b=some o) (e:R[l]?=some p) (hb:h'.get? p.2=some b') (ho:ORel h' R p o') :
  After Γ s R { s with heap:=h',toks:=tk } R ⟨st.fr,st.H.set l o'⟩:=by
 obtain ⟨oL,es,ep,gL,hd,hrest⟩:=id hm'
 obtain ⟨oL0,_,_,gL0,_⟩:=id hm
 have hself:(s.heap.update Γ.X.env.locals fun _=>oL).get? Γ.X.env.locals=some oL:=Heap.get?_update_self _ gL0 (Obj.isFreed_of_dict hd)
 have a1:After Γ s R { s with heap:=s.heap.update Γ.X.env.locals fun _=>oL,toks:=tk } R st :=
  After.butFrame P K hm ⟨oL,es,ep,hself,hd,hrest⟩ fun b o hb e=>(Heap.get?_update_ne _ _ _ _ hb).trans e
 refine a1.trans (After.upd (s:={ s with heap:=s.heap.update Γ.X.env.locals fun _=>oL,toks:=tk }) a1.pre K e (fun b o hb g=>?_) hb ho)
 by_cases hq:b=Γ.X.env.locals
 ·subst hq
  exact inj_some hself g▸gL
 ·exact hk b o hq hb ((Heap.get?_update_ne _ _ _ _ hq).symm.trans g)
noncomputable def allBut2 (h:Heap) (L D:Addr):List (Addr×Obj):=(allBut h L).filter fun p=>p.1≠D
theorem mem_allBut2 {h:Heap} {L D b:Addr} {o:Obj}:(b,o)∈allBut2 h L D↔(b≠L/\h.get? b=some o)/\b≠D:=by
 unfold allBut2
 rw [List.mem_filter,mem_allBut,decide_eq_true_iff]
theorem news_allBut2 {h:Heap} {L D:Addr} {oD:Obj} (hD:D≠L) (e:h.get? D=some oD):News noHeap L h ((D,oD)::allBut2 h L D):=fun p hp =>
 (List.mem_cons.mp hp).elim (fun q=>q▸⟨e,hD,noHeap_get _⟩) fun hp=>have q:=(mem_allBut2 (b:=p.1) (o:=p.2)).mp hp;⟨q.1.2,q.1.1,noHeap_get _⟩
theorem inB (hK:Γ.G.K.In Γ.G.B) (P:Pre Γ s R st):Γ.G.K.In s.heap:=hK.keeps P.sat.keep
structure FieldOk (K:Frag) (C:Addr) (a:Nat):Prop where
 lt:a < NM
 get:plainGet K C (Str.ofString (nm a))=true
 dict:hasDictIn K C=true
 no:∃ attr,findIn K (.ref C) (Str.ofString (nm a))=some attr/\noGet K attr=true
 sets:findIn K (.ref C) "__setattr__"=some (some (.builtin "object.__setattr__"))
 over:plainOver K C=true
 taker:takerIn K C (Str.ofString (nm a))=some none
theorem VRel.handed (r:VRel h R a x):handedIn a=true:=by cases r <;> rfl
inductive IsIns (h:Heap) (R:Reg) (v:Value) (l c:Nat) (fs:List (Nat×AV)):Prop
 | mk (a D:Addr) (es:List DictEntry) (n:Nat) (e:v=.ref a) (g:R[l]?=some (a,D)) (i:h.get? a=some (instObj (CA c) D)) (d:h.get? D=some (dictOf es n)) (z:es.length=fs.length) (m:FMap h R es fs)
theorem Pre.ins {l c:Nat} {fs:List (Nat×AV)} (P:Pre Γ s R st) (r:VRel s.heap R a (.ref l)) (e:st.H[l]?=some (.inst c fs)):IsIns s.heap R a l c fs:=by
 obtain ⟨a,D,rfl,g⟩:=r.ref_v
 obtain ⟨es,n,i,d,z,m⟩:=P.sat.at g e
 exact ⟨a,D,es,n,rfl,g,i,d,z,m⟩
theorem sim_getAttr {l c k:Nat} {fs:List (Nat×AV)} {expr:Bool} (hK:Γ.G.K.In Γ.G.B) (P:Pre Γ s R st) (r:VRel s.heap R a (.ref l)) (eH:st.H[l]?=some (.inst c fs)) (F:FieldOk Γ.G.K (CA c) k) :
  SimAt Γ VRel (getAttr a (Str.ofString (nm k)) expr) (fun Q _=>optP (fget k fs) fun r=>Q r st) s R:=.opt fun v he=>by
 obtain ⟨a,D,es,n,rfl,g,i,d,z,m⟩:=P.ins r eH
 obtain ⟨rv,e1,e2⟩:=m.sm k v F.lt he
 obtain ⟨attr,ha,hn⟩:=F.no
 exact .leaf P fun q=>get_value (inB hK P) ⟨i,rfl,rfl,d⟩ (plainGet_of F.get).1 (findObj_own F.dict ha hn (by rw [lookIn_dict];exact e1)) e2.handed (q _ _ e2)
theorem sim_setAttr {l c k:Nat} {fs:List (Nat×AV)} (hK:Γ.G.K.In Γ.G.B) (P:Pre Γ s R st) (KX:FxOk Γ.X) (r:VRel s.heap R a (.ref l)) (eH:st.H[l]?=some (.inst c fs)) (hf:fs.length < 64) (ry:VRel s.heap R b y) (F:FieldOk Γ.G.K (CA c) k) :
  SimAt (β:=Unit) (α:=Unit) Γ (fun _ _ _ _=>True) (setAttr a (Str.ofString (nm k)) b) (fun Q _=>Q () ⟨st.fr,st.H.set l (.inst c (fset k y fs))⟩) s R:=.rule fun Q E hp=>by
 obtain ⟨a,D,es,n,rfl,g,i,d,z,m⟩:=P.ins r eH
 obtain ⟨mm,hm,_⟩:=P.fr.ns
 have hne:D≠Γ.X.env.locals:=Ne.symm (P.sat.snd_own g (List.mem_append_left _ KX.loc))
 have hne1:a≠Γ.X.env.locals:=fun q=>by
  obtain ⟨oL,_,_,gL,hd,_⟩:=hm
  rw [q,gL] at i;cases i;cases hd
 have hne2:a≠D:=fun q=>nomatch (q▸i).symm.trans d
 have I:InstAt s.heap a (instObj (CA c) D) (CA c) (some (dictOf es n)):=⟨i,rfl,rfl,d⟩
 have fm:=m.set (a:=k) (hsh:=PyData.keyHash Γ.G.w.params (Str.ofString (nm k))) (t:=s.toks+1) z F.lt ry
 refine set_plain (inB hK P) I F.sets (osa_dict (s:={ s with toks:=s.toks+1 }) (pre:=[]) (fr_of_ns hm) (news_allBut2 hne d) (show Γ.G.K.In s.heap from inB hK P) I rfl F.over F.taker F.dict
  (by rw [lookIn_dict,getL_plain m.plain];rfl) (fun _ h=>nomatch h) (fun p hp=>(mem_allBut2.mp (show (p.1,p.2)∈_ from hp)).2) (putName_dict _ _ _ _ _ _) rfl ?_ fun h' F' N'=>?_)
 ·rw [fm.2,len_fset]
  cases (fget k fs).isSome
  ·exact Nat.le_trans (Nat.succ_le_of_lt hf) (by decide)
  ·exact Nat.le_trans (Nat.le_of_lt hf) (by decide)
 ·have hD:=(N' _ (.head _)).1
  have hk:∀ b o,b≠Γ.X.env.locals->b≠D->s.heap.get? b=some o->h'.get? b=some o:=fun b o h1 h2 g=>(N' (b,o) (.tail _ (mem_allBut2.mpr ⟨⟨h1,g⟩,h2⟩))).1
  have k9:=P.sat.upd2_keeps9 (List.mem_append_left _ KX.loc) (mem_snd g) hk
  exact ⟨(),_,_,hp,After.butFrameUpd (tk:=s.toks + 2) P KX hm F'.ns hk g hD ⟨_,_,hk _ _ hne1 hne2 i,hD,fm.2,fm.1.mono k9⟩,trivial⟩
end
end Ab
end
section
namespace Ab
open PySem PySem.W PySem.Calls PyProof.Rows PyProof.Rows.TI
section
variable {M:Model} {A:Around} {E:Value->Shared->Prop} {s:Shared} {h h':Heap}
theorem wpAny_turns {β:Type} {n:Nat} {body:Nat->β->Sem (ForInStep β)} {Q:β->Shared->Prop} (I:Nat->β->Prop)
  (hb:∀ i b,i < n->I i b->∀ Q':ForInStep β->Shared->Prop,(∀ b',I (i+1) b'->Q' (.yield b') s)->wpAny M A (body i b) Q' E s) (hq:∀ b,I n b->Q b s)
  (k:Nat):∀ (i:Nat) (b:β),i + k=n->I i b->wpAny M A (forIn (List.range' i k) b body) Q E s:=by
 induction k with
 | zero =>
  intro i b e hi
  subst e
  exact wpAny_pure (hq b hi)
 | succ k ih =>
  intro i b e hi
  rw [List.range'_succ,List.forIn_cons]
  exact wpAny_bind (hb i b (by omega) hi _ fun b' hb'=>ih (i+1) b' (by omega) hb')
theorem wpAny_rangeTurns {β:Type} {n:Nat} {body:Nat->β->Sem (ForInStep β)} {Q:β->Shared->Prop} {b:β} (I:Nat->β->Prop) (h0:I 0 b)
  (hb:∀ i b,i < n->I i b->∀ Q':ForInStep β->Shared->Prop,(∀ b',I (i+1) b'->Q' (.yield b') s)->wpAny M A (body i b) Q' E s) (hq:∀ b,I n b->Q b s) :
  wpAny M A (forIn [0:n] b body) Q E s:=by
 rw [Std.Legacy.Range.forIn_eq_forIn_range',show ([0:n]:Std.Legacy.Range).size=n by simp [Std.Legacy.Range.size]]
 exact wpAny_turns I hb hq n 0 b (Nat.zero_add n) h0
theorem wp_seqItems {a:Addr} {its:Array Value} {n:Nat} {Q:Option (Array Value)->Shared->Prop} (g:s.heap.get? a=some (W.listOf its n)) (h:Q (some its) s):wpAny M A (seqItems? (.ref a)) Q E s:=by
 unfold seqItems?
 exact wpAny_bind (wpAny_load g (wpAny_pure h))
theorem wp_joinLetGo {keep:List Value} {Q:Unit->Shared->Prop} (hq:Q () s) (l:List (Value×Option Value)):(∀ q∈l,q.2=none)->wpAny M A (Builtin.Bytes.joinLetGo l keep) Q E s:=by
 induction l with
 | nil=>exact fun _=>wpAny_pure hq
 | cons q rest ih =>
  intro hl
  obtain ⟨x,w⟩:=q
  obtain rfl:w=none:=hl (x,w) (List.mem_cons_self ..)
  unfold Builtin.Bytes.joinLetGo
  exact wpAny_bind (wpAny_letGo (ih fun q hq=>hl q (List.mem_cons_of_mem _ hq)))
theorem joined_go (l:List (List UInt8)):∀ (k:Nat) (acc:Array UInt8),((l.map List.toArray).zipIdx k).foldl (fun out (x:Array UInt8×Nat)=>(if x.2>0 then out++#[] else out)++x.1) acc=acc++l.flatten.toArray:=by
 induction l with
 | nil=>intro k acc;exact Array.append_empty.symm
 | cons b l ih =>
  intro k acc
  rw [List.map_cons,List.zipIdx_cons,List.foldl_cons,ih (k+1)]
  simp
theorem joined_eq (bs:List (List UInt8)):Builtin.Bytes.joined #[] (bs.map List.toArray)=bs.flatten.toArray:=(joined_go bs 0 #[]).trans Array.empty_append
theorem sizes_eq (l:List (List UInt8)):∀ (k:Nat),(l.map List.toArray).foldl (fun n (x:Array UInt8)=>n + x.size) k=k + l.flatten.length:=by
 induction l with
 | nil=>intro k;rfl
 | cons b l ih =>
  intro k
  rw [List.map_cons,List.foldl_cons,ih,List.size_toArray,List.flatten_cons,List.length_append,Nat.add_assoc]
end
section
variable {Γ:Cx} {s s' s'':Shared} {R R' R'':Reg} {st st' st'':St} {h h':Heap} {H:AH} {a b:Value} {x y:AV} {C:Call}
theorem lst_map {f:Array Value->Array Value} {l:Nat} {a:Addr} {ys:List AV} {us:List Value} {k:Nat} {Q:KV} {v:Value} {r:AV} (P:Pre Γ s R st) (K:FxOk Γ.X) (e:R[l]?=some (a,a)) (g:s.heap.get? a=some (listOf us.toArray k)) (z:ys.length<=LIM) (hr:VRels s.heap R (f us.toArray).toList ys) (rv:VRel s.heap R v r)
  (hp:Q r ⟨st.fr,st.H.set l (.list ys)⟩):Lift Γ VRel s R Q v { s with heap:=s.heap.update a (Obj.mapSeq f) }:=by
 have hk:∀ b o,b≠a->s.heap.get? b=some o->(s.heap.update a (Obj.mapSeq f)).get? b=some o:=fun b o hb e=>(Heap.get?_update_ne _ _ _ _ hb).trans e
 have k9:=P.sat.upd_keeps9 (.inl (mem_snd e)) hk
 have q:=PySem.IsL.update g f
 exact ⟨r,_,R,hp,After.upd (tk:=s.toks) P K e hk q ⟨_,_,rfl,z,q,hr.mono k9⟩,rv.mono k9⟩
theorem sim_append {l:Nat} {xs:List AV} (P:Pre Γ s R st) (K:FxOk Γ.X) (r:VRel s.heap R a (.ref l)) (hl:st.H[l]?=some (.list xs)) (rb:VRel s.heap R b y) (hz:xs.length < LIM) :
  SimAt Γ VRel (call (.builtin "list.append") [a,b]) (fun Q _=>Q .none ⟨st.fr,st.H.set l (.list (xs++[y]))⟩) s R:=by
 obtain ⟨a,us,n,rfl,e,z,g,rv⟩:=P.lst r hl
 refine .rule fun Q E hp=>append_at g (fun h' hs ho=>?_) (by rw [List.size_toArray,rv.len];exact Nat.le_trans (Nat.le_of_lt hz) LIM_line)
 have hk:∀ b o,b≠a->s.heap.get? b=some o->h'.get? b=some o:=fun b o hb e=>(hs.2 b hb).trans e
 have k9:=P.sat.upd_keeps9 (.inl (mem_snd e)) hk
 exact ⟨.none,_,R,hp,After.upd (tk:=s.toks) P K e hk ho ⟨us++[b],_,rfl,by rw [List.length_append];exact hz,by rw [<-List.push_toArray];exact ho,(rv.app (.cons rb .nil)).mono k9⟩,.none⟩
theorem sim_pop {l:Nat} {ys:List AV} {v:AV} (P:Pre Γ s R st) (K:FxOk Γ.X) (r:VRel s.heap R a (.ref l)) (hl:st.H[l]?=some (.list (ys++[v]))) :
  SimAt Γ VRel (call (.builtin "list.pop") [a]) (fun Q _=>Q v ⟨st.fr,st.H.set l (.list ys)⟩) s R:=by
 obtain ⟨a,us,n,rfl,e,z,g,rv⟩:=P.lst r hl
 have hn:us.length=ys.length+1:=by rw [rv.len,List.length_append];rfl
 obtain ⟨ws,u,rfl⟩:∃ ws u,us=ws++[u]:=⟨us.dropLast,us.getLast (fun q=>by rw [q] at hn;cases hn),(List.dropLast_concat_getLast _).symm⟩
 have hw:ws.length=ys.length:=by rw [List.length_append] at hn;exact Nat.succ.inj hn
 have hv:VRel s.heap R u v:=rv.ix ws.length _ _ (by rw [List.getElem?_append_right (Nat.le_refl _),Nat.sub_self];rfl) (by rw [hw,List.getElem?_append_right (Nat.le_refl _),Nat.sub_self];rfl)
 have hs:VRels s.heap R ws ys:=⟨hw,fun i v w e1 e2=>rv.ix i v w ((List.getElem?_append_left (List.getElem?_eq_some_iff.mp e1).1).trans e1) ((List.getElem?_append_left (List.getElem?_eq_some_iff.mp e2).1).trans e2)⟩
 have hsz:(ws++[u]).toArray.size - 1=ws.length:=by rw [List.size_toArray,List.length_append];rfl
 refine .rule fun Q E hp=>call_meets PySem.F.slot_list_pop ⟨_,g,rfl⟩ PySem.F.entry_list_pop (PySem.F.args_list_pop_1 _) (PySem.MeetsSeq.list_pop_last a _ n u (by simp) (rv.line z)) ⟨g,?_⟩
 refine lst_map (f:=fun xs=>xs.eraseIdxIfInBounds ((ws++[u]).toArray.size - 1)) P K e g (by rw [List.length_append] at z;exact Nat.le_of_succ_le z) ?_ hv hp
 have e1:((ws++[u]).toArray.eraseIdxIfInBounds ((ws++[u]).toArray.size - 1)).toList=ws:=by
  rw [hsz]
  simp [Array.eraseIdxIfInBounds,List.eraseIdx_append_of_length_le]
 rw [e1];exact hs
theorem sim_reverse {l:Nat} {xs:List AV} (P:Pre Γ s R st) (K:FxOk Γ.X) (r:VRel s.heap R a (.ref l)) (hl:st.H[l]?=some (.list xs)) :
  SimAt Γ VRel (call (.builtin "list.reverse") [a]) (fun Q _=>Q .none ⟨st.fr,st.H.set l (.list xs.reverse)⟩) s R:=by
 obtain ⟨a,us,n,rfl,e,z,g,rv⟩:=P.lst r hl
 refine .rule fun Q E hp=>call_meets PySem.F.slot_list_reverse ⟨_,g,rfl⟩ PySem.F.entry_list_reverse (PySem.F.args_list_reverse_1 _) (PySem.AutoSeq1.list_reverse_list_0 a _ n (rv.line z)) ⟨g,?_⟩
 refine lst_map (f:=fun x=>x.reverse) P K e g (by rw [List.length_reverse];exact z) ?_ .none hp
 rw [List.reverse_toArray]
 refine ⟨by rw [List.length_reverse,List.length_reverse,rv.len],fun i v w e1 e2=>?_⟩
 have hi:i < us.length:=List.length_reverse▸(List.getElem?_eq_some_iff.mp e1).1
 rw [List.getElem?_reverse hi] at e1
 rw [List.getElem?_reverse (rv.len▸hi),<-rv.len] at e2
 exact rv.ix _ v w e1 e2
theorem ints_get {us:List Value} {is:List Int} (x:IntsAre us is):∀ {m:Nat} (hm:m < us.length) {i:Int},(fe i us[m]=true↔is[m]?=some i):=by
 induction x with
 | nil=>exact fun hm=>absurd hm (Nat.not_lt_zero _)
 | cons n t _ ih =>
  intro m hm i
  cases m with
  | zero=>exact ⟨fun h=>congrArg some (eq_of_beq h),fun h=>beq_iff_eq.mpr (Option.some.inj h)⟩
  | succ m=>exact ih (Nat.lt_of_succ_lt_succ hm)
theorem sim_index {l k:Nat} {is:List Int} {i:Int} (P:Pre Γ s R st) (r:VRel s.heap R a (.ref l)) (rb:VRel s.heap R b (.int i)) (hl:st.H[l]?=some (.list (is.map .int))) (h1:is[k]?=some i) (h2:∀ j,j < k->is[j]?≠some i) :
  SimAt Γ VRel (call (.builtin "list.index") [a,b]) (fun Q _=>Q (.int (k:Int)) st) s R:=by
 obtain ⟨a,us,n,rfl,e,z,g,rv⟩:=P.lst r hl
 obtain ⟨t,rfl⟩:=rb.int_v
 have hI:=ints_are rv
 have k1:=ints_fe (A:=Γ.A.in1) (s:=s) (i:=i) (t:=t) hI
 have hk:k < us.length:=by rw [rv.len,List.length_map];exact (List.getElem?_eq_some_iff.mp h1).1
 have hz:k<=1048576:=Nat.le_trans (Nat.le_of_lt hk) (rv.len▸z)
 refine .rule fun Q E hp=>call_meets PySem.F.slot_list_index ⟨_,g,rfl⟩ PySem.F.entry_list_index (PySem.F.args_list_index_2 _ _) (PySem.SeqAt.list_indexAt a us.toArray n none #[] (.int i t) (fe i) k hk (Int.lt_of_le_of_lt (Int.ofNat_le.mpr hz) (by decide)) ((ints_get hI hk).mpr h1) fun m hm hlt=>Bool.eq_false_iff.mpr fun q=>h2 m hlt ((ints_get hI hm).mp q)) ⟨g,fun y hy=>k1.1 y (List.mem_toArray.mp hy),?_⟩
 exact ⟨_,_,R,hp,After.toks P,.int _ _⟩
theorem bytes_at {us:List Value} {bs:List (List UInt8)} (r:VRels h R us (bs.map .bytes)) {i:Nat} (hi:i < bs.length):∃ t,us[i]?=some (.bytes bs[i].toArray t):=by
 obtain ⟨v,e,q⟩:=r.get (i:=i) (a:=.bytes bs[i]) (by rw [List.getElem?_map,List.getElem?_eq_getElem hi];rfl)
 obtain ⟨t,rfl,_⟩:=q.bytes_v
 exact ⟨t,e⟩
structure JoinI (bs:List (List UInt8)) (i:Nat) (b:Array (Array UInt8)×List (Value×Option Value)):Prop where
 one:b.1=((bs.take i).map List.toArray).toArray
 two:∀ q∈b.2,q.1.onHeap=false/\q.2=none
theorem JoinI.next {bs:List (List UInt8)} {i:Nat} {b:Array (Array UInt8)×List (Value×Option Value)} {t:Tok} (J:JoinI bs i b) (hi:i < bs.length):JoinI bs (i+1) (b.1.push bs[i].toArray,b.2++[(.bytes bs[i].toArray t,none)]) :=
 ⟨by rw [J.one,List.take_succ_eq_append_getElem hi,List.map_append,List.push_toArray];rfl,fun q hq=>(List.mem_append.mp hq).elim (J.two q) fun hq=>List.mem_singleton.mp hq▸⟨rfl,rfl⟩⟩
theorem JoinI.heap {bs:List (List UInt8)} {i:Nat} {b:Array (Array UInt8)×List (Value×Option Value)} (J:JoinI bs i b):(b.2.any fun x=>x.1.onHeap)=false:=List.any_eq_false.mpr fun q hq=>by rw [(J.two q hq).1];nofun
theorem sim_join {k:Nat} {bs:List (List UInt8)} (P:Pre Γ s R st) (ra:VRel s.heap R a (.bytes [])) (r:VRel s.heap R b (.ref k)) (hl:st.H[k]?=some (.list (bs.map .bytes))) (hz:bs.flatten.length<=LIM) :
  SimAt Γ VRel (call (.builtin "bytes.join") [a,b]) (fun Q _=>Q (.bytes bs.flatten) st) s R:=by
 obtain ⟨t,rfl,_⟩:=ra.bytes_v
 obtain ⟨p,vs,n,rfl,_,_,g,rv⟩:=P.lst r hl
 have k1:vs.length=bs.length:=rv.len.trans (List.length_map _)
 refine .rule fun Q0 E0 hp=>wpAny_call (codeAny_call_builtin slot_bytes_join.plain entry_bytes_join (slot_bytes_join.check _ _ _ _ _ _ _ _ (show typeOf (.bytes #[] t)=pure (Value.type "bytes") from rfl) (args_bytes_join _ _) ?_))
 unfold Builtin.«bytes.join» Builtin.Bytes.joinM
 refine wpAny_bind (wpAny_pure (a:=(Value.bytes #[] t,Value.ref p)) ?_)
 dsimp only
 rw [if_pos (by decide)]
 refine wpAny_bind ?_
 unfold Builtin.Bytes.joinItems
 refine wpAny_bind (wpAny_typeOf_ref g ?_)
 rw [if_pos (show ((W.listOf vs.toArray n).cls==Value.type "list" || (W.listOf vs.toArray n).cls==Value.type "tuple")=true from (by decide:(Value.type "list"==Value.type "list" || Value.type "list"==Value.type "tuple")=true))]
 refine wpAny_pure (wpAny_bind (wp_seqItems g ?_))
 dsimp only
 rw [if_pos (by decide)]
 have done:∀ {x:List UInt8} {tk t:Nat},x=bs.flatten->Lift Γ VRel s R Q0 (.bytes x.toArray t) { s with toks:=tk }:=fun e=>⟨_,_,R,hp,After.toks P,e▸.bytes _ _ (e▸hz)⟩
 have fin:∀ b,JoinI bs bs.length b->∀ (Q:PySem.Fin->Shared->Prop) (E:Value->Shared->Prop),(Q (.done (.ret (.bytes bs.flatten.toArray s.toks))) { s with toks:=s.toks+1 })->wpAny Γ.M Γ.A.in1 (do
   let sep ← Builtin.Bytes.payload (.bytes #[] t)
   if Builtin.Bytes.tooLong (b.1.foldl (· + ·.size) (sep.size * (b.1.size - 1))) then unsupported s!"{toString Builtin.Bytes.Kind.bytes.name ++ toString ".join"}:memory"
   let result ← Builtin.Bytes.Kind.bytes.new (Builtin.Bytes.joined sep b.1.toList)
   holding (result::b.2.flatMap fun (y,u)=>y::u.toList) point
   Builtin.Bytes.joinLetGo b.2 [result]
   ret result) Q E s:=by
  intro b J Q E hQ
  refine wpAny_bind (wpAny_bind (wpAny_pure (wpAny_pure ?_)))
  rw [J.one,List.take_length]
  have hT:Builtin.Bytes.tooLong (((bs.map List.toArray).toArray).foldl (· + ·.size) ((#[]:Array UInt8).size * ((bs.map List.toArray).toArray.size - 1)))=false:=by
   rw [List.foldl_toArray,show (#[]:Array UInt8).size * ((bs.map List.toArray).toArray.size - 1)=0 from Nat.zero_mul _,sizes_eq bs 0,Nat.zero_add]
   exact decide_eq_false (Nat.not_lt.mpr (Nat.le_trans hz LIM_line))
  rw [hT,if_neg (by decide),joined_eq]
  exact wpAny_bind (wpAny_mkBytes (wpAny_bind (wpAny_holding (wpAny_point (wpAny_bind (wp_joinLetGo (wpAny_pure hQ) _ fun q hq=>(J.two q hq).2))))) (Nat.le_trans hz LIM_line))
 rcases vs with _|⟨x,_|⟨y,vs⟩⟩
 ·refine (show wpAny _ _ (forIn [0:0] (_,_) _ >>= _) _ _ s from ?_)
  refine wpAny_bind (wpAny_rangeTurns (I:=fun i b=>JoinI bs i b) ⟨rfl,fun _ hq=>nomatch hq⟩ (fun i b hi=>absurd hi (Nat.not_lt_zero _)) ?_)
  exact fun b J=>fin b (k1▸J) _ _ (done rfl)
 ·refine (show wpAny _ _ (typeOf x >>= _) _ _ s from ?_)
  obtain ⟨t0,ht0⟩:=bytes_at rv (i:=0) (k1▸Nat.one_pos)
  rw [show x=_ from Option.some.inj ht0]
  refine wpAny_bind (wpAny_pure ?_)
  rw [if_pos (by decide)]
  refine wpAny_bind (wpAny_rule (wpAny_pure (done ?_)))
  match bs,k1 with
  | [b0],_=>exact (List.flatten_singleton (l:=b0)).symm
 ·refine (show wpAny _ _ (forIn [0:vs.length+1+1] (_,_) _ >>= _) _ _ s from ?_)
  refine wpAny_bind (wpAny_rangeTurns (I:=fun i b=>JoinI bs i b) ⟨rfl,fun _ hq=>nomatch hq⟩ ?_ fun b J=>fin b (k1▸J) _ _ (done rfl))
  intro i b hi J Q' hQ'
  have hi':i < bs.length:=k1▸hi
  obtain ⟨ti,e1⟩:=bytes_at rv hi'
  refine wpAny_bind (wp_seqItems g ?_)
  dsimp only
  rw [show (List.toArray (x::y::vs)).getD i Value.none=.bytes bs[i].toArray ti by rw [Array.getD_eq_getD_getElem?,List.getElem?_toArray,e1];rfl,J.heap,if_neg (by decide)]
  refine wpAny_bind (wpAny_holding (takeBuffer_bytes ?_))
  dsimp only
  refine wpAny_bind (wp_seqItems g ?_)
  dsimp only
  rw [if_neg (by simp)]
  exact wpAny_pure (hQ' _ (J.next hi'))
noncomputable def lmId (m:LM):String:=LM.casesOn m "list.append" "list.index" "list.pop" "list.reverse" "bytearray.append" "bytearray.extend" "bytes.join"
theorem sim_lmCall {m:LM} {vs:List Value} {as:List AV} (K:FxOk Γ.X) (P:Pre Γ s R st) (ra:VRel s.heap R a x) (r:VRels s.heap R vs as):SimAt Γ VRel (call (.builtin (lmId m)) (a::vs)) (fun Q _=>lmP m x as st Q) s R:=by
 have one:∀ {f:AV->PT AV} {v:Value},(∀ b y,VRel s.heap R b y->SimAt Γ VRel (call v [a,b]) (f y) s R)->SimAt Γ VRel (call v (a::vs)) (fun Q E=>oneP as fun a=>f a Q E) s R:=fun {f v} h=>.one fun x e=>by
  subst e
  obtain ⟨b,rfl,q⟩:=r.inv1
  exact h b x q
 cases m with
 | append=>exact .isRef fun l e=>one fun b y q=>.lst fun xs h1=>.and fun z=>sim_append P K (e▸ra) h1 q z
 | index =>
  exact .isRef fun l e=>one fun b y q=>.isInt fun i f=>.lst fun xs h1=>.ex fun is=>.ex fun k=>.and fun g=>.and fun h2=>.and fun h3=>sim_index P (e▸ra) (f▸q) (g▸h1) h2 h3
 | pop =>
  refine .isRef fun l e=>.and fun f=>.lst fun xs h1=>.ex fun ys=>.ex fun v=>.and fun g=>?_
  subst f
  obtain rfl:=r.inv0
  exact sim_pop P K (e▸ra) (g▸h1)
 | reverse =>
  refine .isRef fun l e=>.and fun f=>.lst fun xs h1=>?_
  subst f
  obtain rfl:=r.inv0
  exact sim_reverse P K (e▸ra) h1
 | bappend =>
  refine .isRef fun l e=>one fun b y q=>.nt fun n f=>.bar fun bs h1=>.and fun z=>?_
  subst f
  obtain ⟨t,rfl⟩:=q.int_v
  exact sim_bappend P K (e▸ra) h1 z.1 z.2
 | bextend =>
  refine .isRef fun l e=>one fun b y q=>.isBytes fun c f=>.bar fun bs h1=>.and fun z=>?_
  subst f
  obtain ⟨t,rfl,_⟩:=q.bytes_v
  exact sim_bextend P K (e▸ra) h1 z
 | join=>exact .and fun e=>one fun b y q=>.isRef fun l f=>.lst fun xs h1=>.ex fun bs=>.and fun g=>.and fun z=>sim_join P (e▸ra) (f▸q) (g▸h1) z
theorem lm_method {m:LM} {pl:Sem Bool} {Q:Value×List Value->Shared->Prop} {E:Value->Shared->Prop} (P:Pre Γ s R st) (ra:VRel s.heap R a x) (hk:lmK m x st.H) (h:Q (.builtin (lmId m),[a]) s) :
  wpAny Γ.M Γ.A (getMethod a (Str.ofString m.name) pl) Q E s:=by
 have list:(x.isRef fun l=>Lst st.H l fun _=>True)->∃ b o,a=.ref b/\s.heap.get? b=some o/\o.cls=.type "list"/\o.dict=none:=fun hk=>by
  cases x with
  | ref l=>obtain ⟨xs,h1,_⟩:=hk;obtain ⟨b,us,n,rfl,_,_,g,_⟩:=P.lst ra h1;exact ⟨b,_,rfl,g,rfl,rfl⟩
  | _=>exact hk.elim
 have barr:(x.isRef fun l=>Bar st.H l fun _=>True)->∃ b o,a=.ref b/\s.heap.get? b=some o/\o.cls=.type "bytearray"/\o.dict=none:=fun hk=>by
  cases x with
  | ref l=>obtain ⟨xs,h1,_⟩:=hk;obtain ⟨b,rfl,_,_,g⟩:=P.bar ra h1;exact ⟨b,_,rfl,g,rfl,rfl⟩
  | _=>exact hk.elim
 have go:∀ {T:String} {name:Str} {id:String},(∃ b o,a=.ref b/\s.heap.get? b=some o/\o.cls=.type T/\o.dict=none)->PlainAttrs T->Slot T name id->typeOf (.builtin id)=pure (.type "method_descriptor")->Q (.builtin id,[a]) s->wpAny Γ.M Γ.A (getMethod a name pl) Q E s:=fun {T name id} x h1 h2 h3 h4=>by
  obtain ⟨b,o,rfl,g,hc,hd⟩:=x
  exact getMethod_builtin ⟨o,g,hc⟩ h1 h2 h3 (fun c e=>by cases e;exact ⟨o,g,hd⟩) h4
 cases m with
 | append=>exact go (list hk) PySem.F.plainAttrs_list PySem.F.slot_list_append PySem.F.type_list_append h
 | index=>exact go (list hk) PySem.F.plainAttrs_list PySem.F.slot_list_index PySem.F.type_list_index h
 | pop=>exact go (list hk) PySem.F.plainAttrs_list PySem.F.slot_list_pop PySem.F.type_list_pop h
 | reverse=>exact go (list hk) PySem.F.plainAttrs_list PySem.F.slot_list_reverse PySem.F.type_list_reverse h
 | bappend=>exact go (barr hk) plainAttrs_bytearray slot_ba_append type_ba_append h
 | bextend=>exact go (barr hk) plainAttrs_bytearray slot_ba_extend type_ba_extend h
 | join =>
  obtain rfl:x=.bytes []:=hk
  obtain ⟨t,rfl,_⟩:=ra.bytes_v
  exact getMethod_builtin (PySem.W.typeIs_bytes _ _ _) PySem.W.FB.plainAttrs_bytes slot_bytes_join type_bytes_join (fun _ e=>nomatch e) h
end
end Ab
end
section
namespace Ab
open PySem PySem.W PySem.Calls PyProof.Rows PyProof.Rows.TI
section
variable {Γ:Cx} {s s' s'':Shared} {R R' R'':Reg} {st st' st'':St} {h h':Heap} {H:AH}
theorem funFrames_mono {h B B':Heap}:∀ {l:List Env},h.FunFrames B l->(∀ env∈l,∀ L,env.frame=some L->B'.get? L=none)->h.FunFrames B' l:=fun {l}=>by
 induction l with
 | nil=>exact fun _ _=>trivial
 | cons env r ih=>exact fun q k=>⟨q.1,q.2.1.elim fun L q=>q.elim fun o q=>⟨L,o,q.1,k env (.head _) L q.1,q.2.2⟩,ih q.2.2 fun e he=>k e (.tail _ he)⟩
def framesOf (l:List Env):List Addr:=l.filterMap (·.frame)
theorem mem_framesOf {l:List Env} {L:Addr}:L∈framesOf l↔∃ env∈l,env.frame=some L:=by
 unfold framesOf;rw [List.mem_filterMap]
structure Stays (h:Heap) (fl ex:List Addr) (h':Heap):Prop where
 rest:∀ b o,b∉fl->b∉ex->h.get? b=some o->h'.get? b=some o
 slots:∀ b o,b∈fl->(∀ vs,o.data≠.fields vs)->h.get? b=some o->∃ sl,h'.get? b=some { o with slots:=sl }
theorem Stays.of {h h':Heap} {fl ex:List Addr} (h1:(gone h (fl++ex)).StaysIn h') (h2:h.UpToSlots h'):Stays h fl ex h' :=
 ⟨fun b o hb he e=>h1 b o (by rw [gone_get (fun q=>(List.mem_append.mp q).elim hb he)];exact e),fun b o _ hn e=>h2 b o e hn⟩
inductive ValObj (o:Obj):Prop
 | seq (vs:Array Value) (n:Nat) (e:o.data=.seq vs n)
 | plain (e:o.data=.plain)
 | rng (vs:Array Value) (c:o.cls=.type "range") (e:o.data=.fields vs) (z:vs.size<=3)
structure Junk (Γ:Cx) (R:Reg) (h0 h:Heap) (b:Addr):Prop where
 new:h0.get? b=none
 reg:b∉R.map (·.2)
 own:b∉Γ.X.own
 obj:∃ o,h.get? b=some o/\¬ ValObj o
theorem FrObj.noVal {o:Obj} (f:FrObj o):¬ ValObj o:=fun v=>f.elim (fun ⟨_,_,e⟩=>by cases v with
  | seq _ _ q=>exact nomatch e.symm.trans q
  | plain q=>exact nomatch e.symm.trans q
  | rng _ _ q _=>exact nomatch e.symm.trans q) fun ⟨_,e⟩=>by cases v with
  | seq _ _ q=>exact nomatch e.symm.trans q
  | plain q=>exact nomatch e.symm.trans q
  | rng _ _ q _=>exact nomatch e.symm.trans q
structure Kept (Γ:Cx) (R:Reg) (h h':Heap):Prop where
 own:∀ b o,b∈Γ.X.own->h.get? b=some o->∃ sl,h'.get? b=some { o with slots:=sl }
 reg:∀ b o,b∈R.map (·.2)->h.get? b=some o->h'.get? b=some o
 val:∀ b o,h.get? b=some o->ValObj o->h'.get? b=some o
theorem frames_own (K:FxOk Γ.X) {b:Addr} (hb:b∈framesOf Γ.X.chain):b∈Γ.X.own:=(mem_framesOf.mp hb).elim fun env q=>K.chainIn env q.1 b q.2
theorem Kept.of {ex:List Addr} (S:Sat Γ R h H) (K:FxOk Γ.X) (nr:∀ b∈ex,b∉R.map (·.2)) (no:∀ b∈ex,b∉Γ.X.own) (nv:∀ b∈ex,∃ o,h.get? b=some o/\¬ ValObj o) (z:Stays h (framesOf Γ.X.chain) ex h'):Kept Γ R h h' where
 own b o hb g:=by
  by_cases hq:b∈framesOf Γ.X.chain
  ·exact (S.frs b hb).casesOn fun o' g' f=>z.slots b o hq (inj_some g' g▸f).noFields g
  ·exact ⟨o.slots,z.rest b o hq (fun q=>no b q hb) g⟩
 reg b o hb g:=z.rest b o (fun q=>(List.nodup_append.mp S.nodup).2.2 b hb b (frames_own K q) rfl) (fun q=>nr b q hb) g
 val b o g v:=z.rest b o (fun q=>(S.frs b (frames_own K q)).casesOn fun o' g' f=>f.noVal (inj_some g' g▸v)) (fun q=>(nv b q).elim fun o' q=>q.2 (inj_some q.1 g▸v)) g
theorem Kept.keeps9 (k:Kept Γ R h h'):Keeps9 h R h' R :=
 ⟨fun a _ ⟨o,n,g,c,d⟩=>⟨o,n,k.val a o g (.seq _ _ d),c,d⟩,fun a _ _ _ _ _ _ r=>k.val a _ r (.rng _ rfl rfl (Nat.le_refl _)),fun _ _ e=>e⟩
theorem Kept.frs (k:Kept Γ R h h') (S:Sat Γ R h H) {b:Addr} (hb:b∈Γ.X.own):Owned h' b:=(S.frs b hb).casesOn fun o g f=>(k.own b o hb g).elim fun sl e=>⟨_,e,f⟩
theorem Kept.objs (k:Kept Γ R h h') (S:Sat Γ R h H) {i:Nat} {p:Addr×Addr} {o:AObj} (e1:R[i]?=some p) (e2:H[i]?=some o):ORel h' R p o:=by
 have O:=S.objs i p o e1 e2
 refine O.mono k.keeps9 (fun b g=>?_) fun b g=>k.reg _ b (mem_snd e1) g
 cases o with
 | list vs=>obtain ⟨us,n,e,z,g',r⟩:=O;rw [e] at g ⊢;exact k.reg _ b (mem_snd e1) g
 | barr bs=>rw [O.e] at g ⊢;exact k.reg _ b (mem_snd e1) g
 | frz its vs=>rw [O.e] at g ⊢;exact k.reg _ b (mem_snd e1) g
 | inst c f=>obtain ⟨es,n,g',d,l,r⟩:=O;exact k.val _ b g (.plain (inj_some g' g▸rfl))
theorem Kept.sat (k:Kept Γ R h h') (S:Sat Γ R h H) (hB:∀ b o,Γ.G.B.get? b=some o->h'.get? b=some o):Sat Γ R h' H :=
 ⟨hB,S.newR,S.newC,S.nodup,S.inj,S.len,fun _ _ _ e1 e2=>k.objs S e1 e2,fun _ hb=>k.frs S hb⟩
theorem Kept.fr (k:Kept Γ R h h') (K:FxOk Γ.X) {names:List String} {fr:List (Option AV)} (x:FrRel h R Γ.X.env names fr):FrRel h' R Γ.X.env names fr :=
 ⟨x.len,x.ns.casesOn fun m n r=>⟨m,n.elim fun o q=>q.elim fun es q=>q.elim fun ep q=>(k.own _ o (List.mem_append_left _ K.loc) q.1).elim fun sl e=>⟨_,es,ep,e,q.2⟩,fun i y a e1 e2 e3=>(r i y a e1 e2 e3).elim fun v q=>⟨v,q.1,q.2.mono k.keeps9⟩⟩,
  fun i y e1 e2=>(x.cel i y e1 e2).casesOn fun c o ov e g d r=>(k.own c o (K.cells _ _ e) g).elim fun sl e'=>⟨c,_,ov,e,e',d,fun a q=>(r a q).elim fun v q=>⟨v,q.1,q.2.mono k.keeps9⟩⟩⟩
theorem After.kept (K:FxOk Γ.X) (S0:∀ b o,Γ.G.B.get? b=some o->s.heap.get? b=some o) (af:After Γ s R s' R' st') (k:Kept Γ R' s'.heap h')
  (same:∀ b o,(s.heap.get? b).isSome->b∉Γ.X.own->s'.heap.get? b=some o->h'.get? b=some o):After Γ s R { s' with heap:=h' } R' st':=by
 have P:=af.pre
 refine ⟨by show _=_;rw [af.eq],⟨P.gens,k.sat P.sat fun b o e=>same b o (by rw [S0 b o e];rfl) (fun q=>some_ne (P.sat.newC b q) e) (P.sat.keep b o e),k.fr K P.fr,funFrames_at P.ff fun env he L hL o g hn=>(k.own L o (K.chainIn env he L hL) g).elim fun sl e=>⟨_,e,hn⟩⟩,?_,?_,?_,af.step.ext⟩
 ·intro b hb
  obtain ⟨o,g⟩:=Option.isSome_iff_exists.mp (af.step.live b hb)
  by_cases hq:b∈Γ.X.own
  ·obtain ⟨sl,e⟩:=k.own b o hq g;exact Option.isSome_iff_exists.mpr ⟨_,e⟩
  ·exact Option.isSome_iff_exists.mpr ⟨_,same b o hb hq g⟩
 ·exact fun b o g h1 h2=>same b o (by rw [g];rfl) h2 (af.step.same b o g h1 h2)
 ·exact fun b o hb g=>(af.step.prot b o hb g).elim fun sl e=>(k.own b _ (List.mem_append_right _ hb) e).elim fun sl e=>⟨sl,e⟩
theorem Stays.same {h0:Heap} {ex:List Addr} (z:Stays h (framesOf Γ.X.chain) ex h') (K:FxOk Γ.X) (hx:∀ b∈ex,h0.get? b=none) (b:Addr) (o:Obj) (e:(h0.get? b).isSome) (hb:b∉Γ.X.own) (g:h.get? b=some o):h'.get? b=some o :=
 z.rest b o (fun q=>hb (frames_own K q)) (fun q=>by rw [hx b q] at e;cases e) g
theorem After.junk {ex:List Addr} (K:FxOk Γ.X) (S0:∀ b o,Γ.G.B.get? b=some o->s.heap.get? b=some o) (af:After Γ s R s' R' st') (hx:∀ b∈ex,Junk Γ R' s.heap s'.heap b)
  (z:Stays s'.heap (framesOf Γ.X.chain) ex h'):After Γ s R { s' with heap:=h' } R' st' :=
 af.kept K S0 (.of af.pre.sat K (fun b hb=>(hx b hb).reg) (fun b hb=>(hx b hb).own) (fun b hb=>(hx b hb).obj) z) (z.same K fun b hb=>(hx b hb).new)
theorem Pre.junk {ex:List Addr} (P:Pre Γ s R st) (K:FxOk Γ.X) (hx:∀ b∈ex,Junk Γ R Γ.G.B s.heap b) (z:Stays s.heap (framesOf Γ.X.chain) ex h'):Pre Γ { s with heap:=h' } R st :=
 (After.junk (s:={ s with heap:=Γ.G.B }) (R:=R) K (fun _ _ e=>e) ⟨rfl,P,fun b e=>(Option.isSome_iff_exists.mp e).elim fun _ e=>Option.isSome_iff_exists.mpr ⟨_,P.sat.keep _ _ e⟩,fun b o e _ _=>P.sat.keep b o e,
  fun b o hb e=>some_ne (P.sat.newC b (List.mem_append_right _ hb)) e,⟨[],(List.append_nil _).symm,fun _ hp=>nomatch hp⟩⟩ hx z).pre
inductive Trc (h0 h:Heap) (e C:Addr) (v3:Value):Prop
 | mk (T:Addr) (oe:Obj) (vs:Array Value) (oT:Obj) (ts:Array Value) (n:h0.get? e=none) (nT:h0.get? T=none) (ne:T≠e) (g:h.get? e=some oe) (c:oe.cls=.ref C) (d:oe.data=.fields vs) (x:vs[1]?=some (.ref T)) (gT:h.get? T=some oT) (dT:oT.data=.fields ts) (x3:ts[3]?=some v3)
theorem Trc.exc {h0 h:Heap} {e C:Addr} {fl:Option Addr} {v:Value} (z:Trc h0 h e C v) (hv:v=.none\/∃ L,fl=some L/\v=rawInt L):ExcAt h0 h fl (.ref e) C:=by
 obtain ⟨T,oe,vs,oT,ts,n,nT,ne,g,c,d,x,gT,dT,x3⟩:=z
 exact ⟨e,oe,vs,rfl,n,g,c,d,(Array.getElem?_eq_some_iff.mp x).1,.tr T oT ts x ne nT gT dT (hv.elim (fun q=>.inl (q▸x3)) fun ⟨L,f,q⟩=>.inr ⟨L,f,q▸x3⟩)⟩
theorem junk_exc {b C:Addr} {o:Obj} {vs:Array Value} (P:Pre Γ s' R' st') {h0:Heap} (n:h0.get? b=none) (g:s'.heap.get? b=some o) (c:o.cls=.ref C) (d:o.data=.fields vs):Junk Γ R' h0 s'.heap b :=
 have f:=P.sat.free_fields g d
 ⟨n,f.1,f.2,o,g,fun v=>by cases v with
  | seq _ _ q=>exact nomatch d.symm.trans q
  | plain q=>exact nomatch d.symm.trans q
  | rng _ q _ _=>exact nomatch c.symm.trans q⟩
theorem junk_tr {b:Addr} {o:Obj} {vs:Array Value} (P:Pre Γ s' R' st') {h0:Heap} (n:h0.get? b=none) (g:s'.heap.get? b=some o) (d:o.data=.fields vs) (z:3 < vs.size):Junk Γ R' h0 s'.heap b :=
 have f:=P.sat.free_fields g d
 ⟨n,f.1,f.2,o,g,fun v=>by cases v with
  | seq _ _ q=>exact nomatch d.symm.trans q
  | plain q=>exact nomatch d.symm.trans q
  | rng us _ q y=>exact Nat.not_lt.mpr y ((by injection d.symm.trans q:vs=us)▸z)⟩
theorem junk2 {P:Addr->Prop} {a b:Addr} (ha:P a) (hb:P b):∀ c∈[a,b],P c:=fun c hc=>(List.mem_cons.mp hc).elim (fun q=>q▸ha) fun q=>List.mem_singleton.mp q▸hb
theorem junk1 {P:Addr->Prop} {a:Addr} (ha:P a):∀ c∈[a],P c:=fun c hc=>List.mem_singleton.mp hc▸ha
theorem trc_of {e C:Addr} {a0 fl:Value} {ex:List Addr} (K:FxOk Γ.X) (af:After Γ s R s' R' st') (n:s.heap.get? e=none) (hex:∀ b∈ex,s.heap.get? b=none)
  (ht:h'.TracedAtW (gone s'.heap (framesOf Γ.X.chain++ex)) e (.ref C) a0 fl) (hu:s'.heap.UpToSlots h'):Trc s.heap h' e C fl:=by
 obtain ⟨oe,vs,T,oT,ts,g1,g2,g3,g4,hnT,hTe,g5,g6,g7⟩:=ht
 refine ⟨T,oe,vs,oT,ts,n,?_,hTe,g1,g2.1,g3,g4,g5,g6,g7⟩
 by_cases hq:T∈framesOf Γ.X.chain
 ·obtain ⟨o,g,hf⟩:=af.pre.sat.frs T (frames_own K hq)
  obtain ⟨sl,e'⟩:=hu T o g hf.noFields
  exact absurd (show ({ o with slots:=sl }:Obj).data=.fields ts from inj_some g5 e'▸g6) (hf.noFields ts)
 ·by_cases hq':T∈ex
  ·exact hex T hq'
  ·rw [gone_get (fun q=>(List.mem_append.mp q).elim hq hq')] at hnT
   exact get_none af.step.live hnT
theorem note_station {x:Value} {C:Addr} {Q:Unit->Shared->Prop} {E:Value->Shared->Prop} (FX:FnFx Γ.X) (hA:Γ.A.frames=some Γ.X.chain) (K:FxOk Γ.X) (P₀:Pre Γ s R st) (af:After Γ s R s' R' st') (ex:ExcAt s.heap s'.heap Γ.X.env.frame x C)
  (hQ:∀ h' e,x=.ref e->After Γ s R { s' with heap:=h' } R' st'->Trc s.heap h' e C (rawInt Γ.X.env.locals)->Q () { s' with heap:=h' }):wpAny Γ.M Γ.A (noteFrame x Γ.X.env) Q E s':=by
 obtain ⟨outer,hch⟩:=FX.chain
 obtain ⟨e,oe,vs,rfl,he,g1,g2,g3,g4,g5⟩:=ex
 have P:=af.pre
 have h0:vs[0]?=some (vs[0]'(Nat.lt_of_succ_lt g4)):=Array.getElem?_eq_getElem (Nat.lt_of_succ_lt g4)
 have ff (l:List Addr):s'.heap.FunFrames (gone s'.heap (framesOf Γ.X.chain++l)) (Γ.X.env::outer):=hch▸funFrames_mono P.ff fun env hen L hL=>gone_none (List.mem_append_left _ (mem_framesOf.mpr ⟨env,hen,hL⟩))
 have gn {l:List Addr} {b:Addr} (hb:b∈l):(gone s'.heap (framesOf Γ.X.chain++l)).get? b=none:=gone_none (List.mem_append_right _ hb)
 have hA':=hch▸hA
 cases g5 with
 | no g5 =>
  unfold noteFrame
  simp only [FX.frame]
  refine wpAny_bind (wpAny_field g1 g3 g5 ?_)
  rw [if_neg (by decide)]
  exact wpAny_entryW (base:=gone s'.heap (framesOf Γ.X.chain++[e])) hA' (ff [e]) FX.frame g1 (fun b o q=>(gone_some q).2) (gn (.head _)) g3 g4 h0 fun h' hN =>
   hQ h' e rfl (After.junk (ex:=[e]) K P₀.sat.keep af (junk1 (junk_exc P he g1 g2 g3)) (Stays.of hN.1 hN.2.2.2)) (trc_of (ex:=[e]) K af he (junk1 he) (g2▸hN.2.2.1) hN.2.2.2)
 | tr T oT ts k1 k2 k3 k4 k5 k6 =>
  have tw (v:Value) (k:ts[3]?=some v) (l:List Addr) (hl:T∈l):s'.heap.TracedAtW (gone s'.heap (framesOf Γ.X.chain++l)) e (.ref C) (vs[0]'(Nat.lt_of_succ_lt g4)) v:=⟨oe,vs,T,oT,ts,g1,⟨g2,h0⟩,g3,k1,gn hl,k2,k4,k5,k⟩
  refine k6.elim (fun k6=>?_) fun q=>q.elim fun L q=>?_
  ·exact wpAny_noteFrame_onW (base:=gone s'.heap (framesOf Γ.X.chain++[e,T])) hA' (ff [e,T]) FX.frame (tw _ k6 _ (.tail _ (.head _))) (fun b o q=>(gone_some q).2) (gn (.head _)) fun h' hN =>
    hQ h' e rfl (After.junk (ex:=[e,T]) K P₀.sat.keep af (junk2 (junk_exc P he g1 g2 g3) (junk_tr P k3 k4 k5 (Array.getElem?_eq_some_iff.mp k6).1)) (Stays.of hN.1 hN.2.2.2)) (trc_of (ex:=[e,T]) K af he (junk2 he k3) hN.2.2.1 hN.2.2.2)
  ·obtain rfl:Γ.X.env.locals=L:=inj_some FX.frame q.1
   exact wpAny_noteFrame_againW FX.frame (tw _ q.2 _ (.head [])) (hQ s'.heap e rfl af ⟨T,oe,vs,oT,ts,he,k3,k2,g1,g2,g3,k1,k4,k5,q.2⟩)
theorem flight_station {e C:Addr} {v3:Value} {fl:Option Addr} {Q:Unit->Shared->Prop} {E:Value->Shared->Prop} (K:FxOk Γ.X) (P₀:Pre Γ s R st) (af:After Γ s R s' R' st') (ex:Trc s.heap s'.heap e C v3)
  (hQ:∀ h',After Γ s R { s' with heap:=h' } R' st'->Trc s.heap h' e C (fl.elim .none fun f=>rawInt f)->Q () { s' with heap:=h' }):wpAny Γ.M Γ.A (setFlight (.ref e) fl) Q E s':=by
 obtain ⟨T,oe,vs,oT,ts,he,hT,hTe,g1,g2,g3,g4,g5,g6,g7⟩:=ex
 have hsz:=(Array.getElem?_eq_some_iff.mp g7).1
 unfold setFlight
 refine wpAny_bind (wpAny_field g1 g3 g4 ?_)
 rw [if_pos (show (Value.ref T != Value.none)=true from by simp)]
 have hd:=Obj.data_mapFields g6 (·.setIfInBounds 3 (fl.elim Value.none fun f=>rawInt f))
 have other:∀ b,b≠T->(s'.heap.update T (Obj.mapFields (·.setIfInBounds 3 (fl.elim Value.none fun f=>rawInt f)))).get? b=s'.heap.get? b:=fun b hb=>Heap.get?_update_other _ _ (Ne.symm hb)
 refine wpAny_setField g5 g6 hsz (hQ _ (After.junk (ex:=[T]) K P₀.sat.keep af (junk1 (junk_tr af.pre hT g5 g6 hsz)) ⟨fun b o _ hb g=>?_,fun b o _ hn g=>⟨o.slots,?_⟩⟩) ?_)
 ·exact (other b (fun q=>hb (q▸.head _))).trans g
 ·exact (other b (fun q=>hn ts (inj_some (q▸g5) g▸g6))).trans g
 ·exact ⟨T,oe,vs,_,_,he,hT,hTe,(other e (Ne.symm hTe)).trans g1,g2,g3,g4,Heap.get?_update_self _ g5 (Obj.isFreed_of_fields hd),hd,by simp [hsz]⟩
theorem leave_station {x:Value} {C:Addr} {Q:Unit->Shared->Prop} {E:Value->Shared->Prop} (FX:FnFx Γ.X) (hA:Γ.A.frames=some Γ.X.chain) (K:FxOk Γ.X) (P₀:Pre Γ s R st) (af:After Γ s R s' R' st') (ex:ExcAt s.heap s'.heap Γ.X.env.frame x C)
  (hQ:∀ h',After Γ s R { s' with heap:=h' } R' st'->(∀ fl,ExcAt s.heap h' fl x C)->Q () { s' with heap:=h' }):wpAny Γ.M Γ.A (leaving Γ.X.env x) Q E s':=by
 unfold leaving
 refine wpAny_bind (note_station FX hA K P₀ af ex fun h1 e hx af1 tr1=>?_)
 subst hx
 exact flight_station (s':={ s' with heap:=h1 }) K P₀ af1 tr1 fun h2 af2 tr2=>hQ h2 af2 fun _=>tr2.exc (.inl rfl)
end
end Ab
end
section
namespace Ab
open PySem
noncomputable def okN (N:List String):Bool:=N.all fun x=>(Str.ofString x != "__debug__")&&(Str.ofString x != "__classdict__")
noncomputable def isTupE (e:AE):Bool:=match e with
 | .tup _ _=>true
 | _=>false
noncomputable def okT (L:Nat) (N:List String) (sc:Sc) (t:AT) (e:AE):Bool:=match t with
 | .t0 (.tup is p)=>okT0 N sc (.tup is p)&&!isTupE e&&!isCmp e
 | .t0 t=>okT0 N sc t
 | .attr o _ _=>okE L o N sc&&!isCmp e
 | .sub o i _=>okE L o N sc&&okE L i N sc&&!isCmp e
noncomputable def AFs.len:AFs->Nat
 | .nil=>0
 | .txt _ _ r=>r.len+1
 | .fmt _ _ r=>r.len+1
noncomputable def okFs (L:Nat) (N:List String) (sc:Sc):AFs->Bool
 | .nil=>true
 | .txt s _ r=>Nat.ble (Str.ofString s).length 1000&&okFs L N sc r
 | .fmt e _ r=>okE L e N sc&&okFs L N sc r
mutual
noncomputable def okS (L:Nat) (N:List String) (sc:Sc):AS->Bool
 | .expr e _=>okE L e N sc&&!isCmp e
 | .ret e _=>okE L e N sc
 | .ret0 _=>true
 | .asg t e _=>okE L e N sc&&okT L N sc t e
 | .aug i _ e _ _=>slotK N sc i .local&&okE L e N sc
 | .augAttr i _ _ e _ _ _=>slotK N sc i .local&&okE L e N sc
 | .ite c b o _=>okE L c N sc&&okSs L N sc b&&okSs L N sc o
 | .whl c b _=>okE L c N sc&&okSs L N sc b
 | .for t it b _=>okT0 N sc t&&okE L it N sc&&okSs L N sc b
 | .raise c s fs _ _ _ _=>isG sc c&&Option.casesOn s (Nat.ble 2 fs.len&&Nat.ble fs.len 20&&okFs L N sc fs) fun _=>Nat.beq fs.len 0
 | .try b hs _=>okSs L N sc b&&hs.all (fun h=>isG sc h.c)&&!hs.isEmpty
termination_by structural s=>s
noncomputable def okSs (L:Nat) (N:List String) (sc:Sc):ASs->Bool
 | .nil=>true
 | .cons s ss=>okS L N sc s&&okSs L N sc ss
termination_by structural ss=>ss
end
end Ab
end
section
namespace Ab
open PySem PySem.W PySem.Calls PyProof.Rows PyProof.Rows.TI
open PySem.Sem (wp)
section
variable {prog:Program} {w:World} {A:Around} {s:Shared}
theorem wpP_keep {α:Type} {M:Model} {vs:List Value} {m:Sem α} {Q:α->Shared->Prop} {E:Value->Shared->Prop} (h:wpP M A m Q E s):wpP M A (m.keep vs) Q E s :=
 fun Γ p hΓ hZ=>by rw [Sem.wp_keep];exact h Γ p hΓ hZ
theorem codeP_func {body:List Stmt} {env:Env} {Rr:Result->Shared->Prop}
  (h:wpP (model prog w) (A.deeper env) (execs body env) (fun f s'=>Rr (.ok (.ret (match f with|.ret v=>v|_=>.none))) s')
   (fun e s'=>wpP (model prog w) (A.deeper env) (leaving env e) (fun _ s''=>Rr (.error e) s'') (fun e' s''=>Rr (.error e') s'') s') s) :
  codeP (model prog w) A (.func body env) Rr s:=by
 refine codeP_of_tree ?_ rfl
 show wpP _ (A.deeper env) (do point;match ← (execs body env).onRaise (leaving env) with|.ret v=>ret v|_=>ret .none) _ _ s
 refine wpP_bind (wpP_of (wpAny_point (wpP_bind (wpP_onRaise (wpP_mono h (fun f s' h'=>?_) fun _ _ h'=>h')))))
 cases f <;> exact wpP_pure h'
theorem codeP_call_function {a:Addr} {args:Args} {o:Obj} {fd:FuncData} {body:List Stmt} {Rr:Result->Shared->Prop} (hroom:A.depth < recursionLimit)
  (ho:s.heap.get? a=some o)
  (hd':o.data=.func fd) (hco:fd.scope.isCoroutine=false) (hgen:fd.scope.isGenerator=false) (hbody:fd.body=.stmts body) (hcd:s.heap.CodeRec fd.code fd.qualname)
  (h:wpP (model prog w) A.in1 (bindArgs fd args) (fun binds s₁ =>
   wpP (model prog w) A.in1 (newFunctionEnv fd.scope fd.globals fd.closure binds (fd.qualname++".<locals>.") (some a) fd.code none fd.builtins)
    (fun env s₂=>s₂.heap.NoLimit/\codeP (model prog w) A (.func body env) Rr s₂) (fun e s'=>Rr (.error e) s') s₁) (fun e s'=>Rr (.error e) s') s) :
  codeP (model prog w) A (.call (.ref a) args) Rr s:=by
 refine codeP_of_tree ?_ rfl
 show wpP _ A.in1 (callAny (.ref a) args) _ _ s
 simp only [callAny]
 refine wpP_bind (wpP_of (wpAny_load ho ?_))
 obtain ⟨c,oc,vs,tq,hc,hoc,hdc,hq⟩:=hcd
 simp only [hd',callFunction,hco,hgen,hbody,hc]
 rw [hc] at h
 refine wpP_bind (m:=field (.ref c) 1) (wpP_of (wpAny_field hoc hdc hq (wpP_bind (wpP_pure ?_))))
 exact wpP_bind (wpP_mono h (fun binds s₁ h₁=>wpP_bind (wpP_mono h₁ (fun env s₂ h₂=>wpP_bind (wpP_of (wpAny_enterFrame h₂.1 hroom
  (wpP_pure (And.intro rfl h₂.2))))) fun _ _ h'=>h')) fun _ _ h'=>h')
theorem codeP_call_cells {Rr:Result->Shared->Prop} {a:Addr} {o:Obj} {fd:FuncData} {body:List Stmt} {args:Args} {binds:List (Str×Value)}
  (hroom:A.depth < recursionLimit) (ho:s.heap.get? a=some o) (hdata:o.data=.func fd) (hlim:s.heap.NoLimit) (hcd:s.heap.CodeRec fd.code fd.qualname)
  (hbody:fd.body=.stmts body) (hbind:BindsTo s fd args binds) (hclo:fd.closure=[])
  (hkind:∀ x∈binds,fd.scope.names.lookup x.1=some .local\/(fd.scope.names.lookup x.1=some .cell/\((cellsFrom (s.heap.objs.size+1) fd.scope.names []).lookup x.1).isSome=true))
  (h:∀ s₁,InCallC s (callEnvC fd s.heap.objs.size a).locals (bindL (callEnvC fd s.heap.objs.size a).kindOf binds fun _=>none) (callEnvC fd s.heap.objs.size a).cells
    (bindC (callEnvC fd s.heap.objs.size a).kindOf binds fun _=>none) s₁ →
   wpP (model prog w) (A.deeper (callEnvC fd s.heap.objs.size a)) (execs body (callEnvC fd s.heap.objs.size a)) (fun f s'=>Rr (.ok (.ret (match f with|.ret v=>v|_=>.none))) s')
    (fun e s'=>wpP (model prog w) (A.deeper (callEnvC fd s.heap.objs.size a)) (leaving (callEnvC fd s.heap.objs.size a) e) (fun _ s''=>Rr (.error e) s'') (fun e' s''=>Rr (.error e') s'') s') s₁)
  (hco:fd.scope.isCoroutine=false) (hgen:fd.scope.isGenerator=false) (hk:fd.scope.kind=.function) :
  codeP (model prog w) A (.call (.ref a) args) Rr s:=by
 refine codeP_call_function hroom ho hdata hco hgen hbody hcd (wpP_of (hbind _ _ _ _ ?_))
 rw [hclo]
 refine wpP_of (wpAny_newFunctionEnv_cells hk hkind fun env he s' x=>?_)
 subst he
 exact ⟨hlim.keeps x.toInCall.keep,codeP_func (h s' x)⟩
end
section
variable {α:Type} {x:Str}
theorem look_hit {v:α} {r:List (Str×α)}:((x,v)::r).lookup x=some v:=by rw [List.lookup_cons,beq_self_eq_true]
theorem look_miss {n:Str} {v:α} {r:List (Str×α)} (h:x≠n):((n,v)::r).lookup x=r.lookup x:=by rw [List.lookup_cons,beq_eq_false_iff_ne.mpr h]
theorem cells_cell (n:Nat) (name:Str) (r:List (Str×NameKind)) (acc:List (Str×Addr)):cellsFrom n ((name,.cell)::r) acc=cellsFrom (n+1) r ((name,n)::acc):=by rw [cellsFrom];rfl
theorem cells_other (n:Nat) (name:Str) (k:NameKind) (r:List (Str×NameKind)) (acc:List (Str×Addr)) (h:k≠.cell):cellsFrom n ((name,k)::r) acc=cellsFrom n r acc:=by
 rw [cellsFrom];exact if_neg fun q=>h (beq_iff_eq.mp q)
theorem lookup_cells (names:List (Str×NameKind)):∀ (n:Nat) (acc:List (Str×Addr)),((x,NameKind.cell)∈names\/(acc.lookup x).isSome)->((cellsFrom n names acc).lookup x).isSome:=by
 induction names with
 | nil=>exact fun n acc h=>h.elim (fun h=>nomatch h) id
 | cons p r ih =>
  obtain ⟨name,k⟩:=p
  intro n acc h
  by_cases hk:k=.cell
  ·subst hk
   rw [cells_cell]
   refine ih _ _ ?_
   by_cases hx:x=name
   ·subst hx;rw [look_hit];exact .inr rfl
   ·rw [look_miss hx]
    exact h.imp (fun h=>(List.mem_cons.mp h).elim (fun e=>absurd (congrArg Prod.fst e) hx) id) id
  ·rw [cells_other _ _ _ _ _ hk]
   exact ih _ _ (h.imp (fun h=>(List.mem_cons.mp h).elim (fun e=>absurd (congrArg Prod.snd e).symm hk) id) id)
theorem cellsFrom_nodup (names:List (Str×NameKind)):∀ (n:Nat) (acc:List (Str×Addr)),(names.map (·.1)++acc.map (·.1)).Nodup->((cellsFrom n names acc).map (·.1)).Nodup:=by
 induction names with
 | nil=>exact fun _ _ h=>h
 | cons p r ih =>
  obtain ⟨name,k⟩:=p
  intro n acc h
  by_cases hk:k=.cell
  ·subst hk
   rw [cells_cell]
   exact ih _ _ ((List.perm_middle.nodup_iff).mpr h)
  ·rw [cells_other _ _ _ _ _ hk]
   exact ih _ _ (List.nodup_cons.mp (show (name::(r.map (·.1)++acc.map (·.1))).Nodup from h)).2
theorem lookup_of_mem {c:α} {l:List (Str×α)} (hn:(l.map (·.1)).Nodup) (h:(x,c)∈l):l.lookup x=some c:=by
 induction l with
 | nil=>cases h
 | cons p r ih =>
  obtain ⟨k,v⟩:=p
  have hn:=List.nodup_cons.mp (show (k::r.map (·.1)).Nodup from hn)
  refine (List.mem_cons.mp h).elim (fun e=>by cases e;exact look_hit) fun h=>?_
  rw [look_miss fun q:x=k=>hn.1 (q▸List.mem_map.mpr ⟨(x,c),h,rfl⟩)]
  exact ih hn.2 h
variable {k:Str->Option NameKind} {v:Value}
theorem bindL_none {binds:List (Str×Value)}:∀ {m:Str->Option Value},(∀ p∈binds,p.1≠x)->bindL k binds m x=m x:=by
 induction binds with
 | nil=>exact fun _=>rfl
 | cons p r ih =>
  intro m h
  rw [bindL,ih fun p hp=>h p (.tail _ hp)]
  by_cases hk:k p.1=some .local
  ·rw [if_pos hk];exact if_neg fun q=>h p (.head _) q.symm
  ·rw [if_neg hk]
theorem bindC_none {binds:List (Str×Value)}:∀ {m:Str->Option Value},(∀ p∈binds,p.1≠x)->bindC k binds m x=m x:=by
 induction binds with
 | nil=>exact fun _=>rfl
 | cons p r ih =>
  intro m h
  rw [bindC,ih fun p hp=>h p (.tail _ hp)]
  by_cases hk:k p.1=some .local
  ·rw [if_pos hk]
  ·rw [if_neg hk];exact if_neg fun q=>h p (.head _) q.symm
theorem zip_ne {n:Str} {ns:List Str} {us:List Value} (hn:(n::ns).Nodup) (p:Str×Value) (hp:p∈ns.zip us):p.1≠n:=fun q=>(List.nodup_cons.mp hn).1 (q▸(List.of_mem_zip (show (p.1,p.2)∈_ from hp)).1)
theorem bindL_at (hk:k x=some .local) {names:List Str}:∀ {vals:List Value} {i:Nat} {m:Str->Option Value},names.Nodup->names[i]?=some x->vals[i]?=some v->bindL k (names.zip vals) m x=some v:=by
 induction names with
 | nil=>exact fun _ e _=>nomatch e
 | cons n ns ih =>
  intro vals i m hn e1 e2
  cases vals with
  | nil=>exact nomatch e2
  | cons u us =>
   rw [List.zip_cons_cons,bindL]
   cases i with
   | zero =>
    obtain rfl:n=x:=Option.some.inj e1
    obtain rfl:u=v:=Option.some.inj e2
    rw [bindL_none (zip_ne hn),if_pos hk,if_pos rfl]
   | succ i=>exact ih (List.nodup_cons.mp hn).2 e1 e2
theorem bindC_at (hk:k x=some .cell) {names:List Str}:∀ {vals:List Value} {i:Nat} {m:Str->Option Value},names.Nodup->names[i]?=some x->vals[i]?=some v->bindC k (names.zip vals) m x=some v:=by
 induction names with
 | nil=>exact fun _ e _=>nomatch e
 | cons n ns ih =>
  intro vals i m hn e1 e2
  cases vals with
  | nil=>exact nomatch e2
  | cons u us =>
   rw [List.zip_cons_cons,bindC]
   cases i with
   | zero =>
    obtain rfl:n=x:=Option.some.inj e1
    obtain rfl:u=v:=Option.some.inj e2
    rw [bindC_none (zip_ne hn),if_neg (by rw [hk];decide),if_pos rfl]
   | succ i=>exact ih (List.nodup_cons.mp hn).2 e1 e2
end
theorem nodup_ofString {l:List String} (h:l.Nodup):(l.map Str.ofString).Nodup:=List.pairwise_map.mpr (h.imp fun hne q=>hne (ofString_inj q))
inductive DefAt (B:Heap) (a:Addr) (d:FuncData):Prop
 | mk (o:Obj) (g:B.get? a=some o) (e:o.data=.func d)
inductive BindsOk (B:Heap) (fd:FD) (d:FuncData) (vals:List Value):Prop
 | mk (more:List Value) (r:∀ h R,VRels h R more (fd.dflts.drop (fd.dflts.length - (fd.np - vals.length)))) (b:∀ s:Shared,(∀ b o,B.get? b=some o->s.heap.get? b=some o)->BindsTo s d ⟨vals,[]⟩ (((fd.names.take fd.np).map Str.ofString).zip (vals++more)))
structure FnOk (B:Heap) (a:Addr) (fd:FD) (d:FuncData):Prop where
 obj:DefAt B a d
 code:B.CodeRec d.code d.qualname
 body:d.body=.stmts (toSs fd.line fd.names fd.body)
 co:d.scope.isCoroutine=false
 gen:d.scope.isGenerator=false
 kind:d.scope.kind=.function
 closure:d.closure=[]
 globals:d.globals=mainGlobals
 builtins:d.builtins=builtinsNs
 nodup:fd.names.Nodup
 np:fd.np<=fd.names.length
 params:∀ x∈fd.names.take fd.np,d.scope.names.lookup (Str.ofString x)=some .local\/d.scope.names.lookup (Str.ofString x)=some .cell
 keys:(d.scope.names.map (·.1)).Nodup
 noFree:∀ x∈d.scope.names,x.2≠.free
 binds:∀ vals:List Value,vals.length<=fd.np->fd.np<=vals.length + fd.dflts.length->BindsOk B fd d vals
def fxOf (d:FuncData) (names:List String) (L a:Addr) (X:Fx):Fx where
 env:=callEnvC d L a
 names:=names
 cur:=L::(cellsFrom (L+1) d.scope.names []).map (·.2)
 fs:=X.own
 chain:=callEnvC d L a::X.chain
structure FxEnter (B:Heap) (X:Fx):Prop where
 loc:X.env.locals∈X.own\/∃ o,B.get? X.env.locals=some o
 cells:∀ x c,X.env.cells.lookup x=some c->c∈X.own
 chainIn:∀ env∈X.chain,∀ L,env.frame=some L->L∈X.own
theorem FxOk.enter {B:Heap} {X:Fx} (K:FxOk X):FxEnter B X:=⟨.inl (List.mem_append_left _ K.loc),K.cells,K.chainIn⟩
theorem fxOf_ok {B:Heap} {X:Fx} {a:Addr} {fd:FD} {d:FuncData} {L:Addr} (F:FnOk B a fd d) (K:FxEnter B X) (ap:(cellsFrom (L+1) d.scope.names []).Pairwise fun x y=>x.2≠y.2) (ab:∀ n c,(n,c)∈cellsFrom (L+1) d.scope.names []->L < c):FxOk (fxOf d fd.names L a X) where
 kind:=F.kind
 globals:=F.globals
 builtins:=F.builtins
 nodup:=F.nodup
 loc:=.head _
 cells x c e:=List.mem_append_left _ (.tail _ (List.mem_map.mpr ⟨(x,c),mem_of_lookup e,rfl⟩))
 cellNe _ _ e:=Nat.ne_of_gt (ab _ _ (mem_of_lookup e))
 cellInj _ _ _ e1 e2:=name_of_addr ap (mem_of_lookup e1) (mem_of_lookup e2)
 chainIn env he L' hL:=(List.mem_cons.mp he).elim (fun q=>by subst q;cases hL;exact List.mem_append_left _ (.head _)) fun he=>List.mem_append_right _ (K.chainIn env he L' hL)
theorem fxOf_fn {X:Fx} {d:FuncData} {names:List String} {L a:Addr}:FnFx (fxOf d names L a X) :=
 ⟨⟨_,rfl⟩,rfl,fun x c _ e=>.tail _ (List.mem_map.mpr ⟨(x,c),mem_of_lookup e,rfl⟩)⟩
noncomputable abbrev Cx.enter (Γ:Cx) (d:FuncData) (names:List String) (L a:Addr):Cx:=⟨Γ.G,Γ.A.deeper (callEnvC d L a),fxOf d names L a Γ.X⟩
abbrev parBinds (fd:FD) (vals:List Value):List (Str×Value):=((fd.names.take fd.np).map Str.ofString).zip vals
abbrev Entered (s:Shared) (d:FuncData) (fd:FD) (a:Addr) (vals:List Value) (s':Shared):Prop :=
 InCallC s (callEnvC d s.heap.objs.size a).locals (bindL (callEnvC d s.heap.objs.size a).kindOf (parBinds fd vals) fun _=>none) (callEnvC d s.heap.objs.size a).cells (bindC (callEnvC d s.heap.objs.size a).kindOf (parBinds fd vals) fun _=>none) s'
section
variable {Γ:Cx} {s s':Shared} {R R':Reg} {st st':St} {a:Addr} {fd:FD} {d:FuncData} {vals:List Value} {as:List AV}
theorem entered_fresh (I:Entered s d fd a vals s'):∀ b∈(fxOf d fd.names s.heap.objs.size a Γ.X).cur,s.heap.get? b=none:=fun b hb =>
 (List.mem_cons.mp hb).elim (fun q=>q▸get_size_none _) fun hb=>(List.mem_map.mp hb).elim fun p q=>q.2▸Heap.get?_none_of_le (Nat.le_of_lt (I.above p.1 p.2 q.1))
theorem entered_cell (F:FnOk Γ.G.B a fd d) (I:Entered s d fd a vals s') {n:Str} {c:Addr} (hm:(n,c)∈cellsFrom (s.heap.objs.size+1) d.scope.names []):∃ o,s'.heap.get? c=some o/\o.data=.cell (bindC (callEnvC d s.heap.objs.size a).kindOf (parBinds fd vals) (fun _=>none) n) :=
 I.cell n c (lookup_of_mem (cellsFrom_nodup _ _ _ (by rw [List.map_nil,List.append_nil];exact F.keys)) hm)
theorem entered_own (F:FnOk Γ.G.B a fd d) (I:Entered s d fd a vals s'):∀ b∈(fxOf d fd.names s.heap.objs.size a Γ.X).cur,Owned s'.heap b:=fun b hb =>
 (List.mem_cons.mp hb).elim (fun q=>q▸ns_owned I.toInCall.ns) fun hb=>(List.mem_map.mp hb).elim fun p q=>(entered_cell F I q.1).elim fun o z=>⟨o,q.2▸z.1,.inr ⟨_,z.2⟩⟩
theorem entered_nodup (I:Entered s d fd a vals s'):(fxOf d fd.names s.heap.objs.size a Γ.X).cur.Nodup :=
 List.nodup_cons.mpr ⟨fun q=>(List.mem_map.mp q).elim fun p z=>Nat.lt_irrefl _ (z.2▸I.above p.1 p.2 z.1:s.heap.objs.size < s.heap.objs.size),List.pairwise_map.mpr I.apart⟩
theorem frame_lt {n m i:Nat} {as:List AV} {x:AV} (h:as.length=n) (e:(as.map some++List.replicate m (none:Option AV))[i]?=some (some x)):as[i]?=some x/\i < n:=by
 by_cases hi:i < as.length
 ·rw [List.getElem?_append_left (by rw [List.length_map];exact hi),List.getElem?_map] at e
  obtain ⟨y,e4,e5⟩:=Option.map_eq_some_iff.mp e
  exact ⟨Option.some.inj e5▸e4,h▸hi⟩
 ·rw [List.getElem?_append_right (by rw [List.length_map];exact Nat.not_lt.mp hi),List.getElem?_replicate] at e
  by_cases q:i - (as.map some).length < m
  ·rw [if_pos q] at e;cases e
  ·rw [if_neg q] at e;cases e
theorem name_at {n i:Nat} {x:String} (hi:i < n) (e:fd.names[i]?=some x):((fd.names.take n).map Str.ofString)[i]?=some (Str.ofString x):=by rw [List.getElem?_map,List.getElem?_take,if_pos hi,e];rfl
theorem Pre.enter (P:Pre Γ s R st) (F:FnOk Γ.G.B a fd d) (hv:VRels s.heap R vals as) (hn:as.length=fd.np) (I:Entered s d fd a vals s') :
  Pre (Γ.enter d fd.names s.heap.objs.size a) s' R ⟨as.map some++List.replicate (fd.names.length - fd.np) none,st.H⟩:=by
 have keep:=I.toInCall.keep
 have k9:Keeps9 s.heap R s'.heap R:=keeps9_h keep
 have fresh:=entered_fresh (Γ:=Γ) I
 have gs:s'.gens=#[]:=by obtain ⟨h',tk,e⟩:=I.toInCall.same;rw [e];exact P.gens
 have S1:=P.sat.keepAll keep
 have nd:((fd.names.take fd.np).map Str.ofString).Nodup:=nodup_ofString (F.nodup.sublist (List.take_sublist _ _))
 refine ⟨gs,⟨S1.keep,S1.newR,fun b hb=>?_,?_,S1.inj,S1.len,S1.objs,fun b hb=>?_⟩,⟨?_,⟨_,I.toInCall.ns,fun i x v e1 e2 e3=>?_⟩,fun i x e1 e2=>?_⟩,?_⟩
 ·exact (List.mem_append.mp hb).elim (fun hb=>none_B P.sat (fresh b hb)) (P.sat.newC b)
 ·have hd:=List.nodup_append.mp P.sat.nodup
  refine List.nodup_append.mpr ⟨hd.1,List.nodup_append.mpr ⟨entered_nodup I,hd.2.1,fun b hb c hc q=>?_⟩,fun b hb c hc=>?_⟩
  ·exact (P.sat.frs c hc).casesOn fun o g _=>some_ne (fresh b hb) (q▸g)
  ·exact (List.mem_append.mp hc).elim (fun hc q=>(P.sat.regAt hb).casesOn fun o g _=>some_ne (fresh c hc) (q▸g)) fun hc=>hd.2.2 b hb c hc
 ·exact (List.mem_append.mp hb).elim (entered_own F I b) (S1.frs b)
 ·have h1:=F.np
  show (as.map some++List.replicate (fd.names.length - fd.np) none).length=fd.names.length
  rw [List.length_append,List.length_map,List.length_replicate,hn];omega
 ·obtain ⟨e4,hi⟩:=frame_lt hn e2
  obtain ⟨u,e5,e6⟩:=hv.get e4
  exact ⟨u,bindL_at (i:=i) e3 nd (name_at hi e1) e5,e6.mono k9⟩
 ·have e2:d.scope.names.lookup (Str.ofString x)=some .cell:=e2.elim id fun e2=>absurd rfl (F.noFree _ (mem_of_lookup e2))
  obtain ⟨c,hc⟩:=Option.isSome_iff_exists.mp (lookup_cells d.scope.names (s.heap.objs.size+1) [] (.inl (mem_of_lookup e2)))
  obtain ⟨o,g,hd⟩:=I.cell _ c hc
  refine ⟨c,o,_,hc,g,hd,fun v e3=>?_⟩
  obtain ⟨e4,hi⟩:=frame_lt hn e3
  obtain ⟨u,e5,e6⟩:=hv.get e4
  exact ⟨u,bindC_at (i:=i) e2 nd (name_at hi e1) e5,e6.mono k9⟩
 ·exact Heap.FunFrames.cons (by show d.scope.kind≠.module;rw [F.kind];decide) rfl I.toInCall.ns (none_B P.sat (get_size_none _)) (P.ff.of_keeps fun b o e _=>⟨o,keep b o e,rfl⟩)
theorem After.leaveG {A':Around} {X':Fx} {s1:Shared} {R1:Reg} {st1:St} (P:Pre Γ s R st) (K:FxEnter Γ.G.B Γ.X) (hfs:X'.fs=Γ.X.own) (hch:∀ h:Heap,h.FunFrames Γ.G.B X'.chain->h.FunFrames Γ.G.B Γ.X.chain) (fresh:∀ b∈X'.cur,s.heap.get? b=none)
  (keep:∀ b o,s.heap.get? b=some o->s1.heap.get? b=some o) (hs:s1={ s with heap:=s1.heap,toks:=s1.toks }) (new1:Reg) (hR:R1=R++new1) (hn1:∀ p∈new1,s.heap.get? p.2=none) (P1:Pre ⟨Γ.G,A',X'⟩ s1 R1 st1)
  (af:After ⟨Γ.G,A',X'⟩ s1 R1 s' R' st'):After Γ s R s' R' ⟨st.fr,st'.H⟩:=by
 subst hR
 have k9:Keeps9 s.heap R s'.heap R':=by
  have k1:Keeps9 s.heap R s1.heap (R++new1):=keeps9_app keep
  have k2:=af.keeps9 P1
  exact ⟨fun a vs t=>k2.tup _ _ (k1.tup _ _ t),fun a x y z t u v r=>k2.rng _ _ _ _ _ _ _ (k1.rng _ _ _ _ _ _ _ r),fun l p e=>k2.reg _ _ (k1.reg _ _ e)⟩
 have t:=af.step
 have old:∀ b o,b∈Γ.X.own->s.heap.get? b=some o->∃ sl,s'.heap.get? b=some { o with slots:=sl }:=fun b o hb g=>t.prot b o (hfs▸hb) (keep b o g)
 have up:∀ b,b∈Γ.X.own->b∈X'.own:=fun b hb=>List.mem_append_right _ (hfs▸hb)
 have alive:∀ b,(s.heap.get? b).isSome->(s1.heap.get? b).isSome:=fun b z=>by obtain ⟨o,g⟩:=Option.isSome_iff_exists.mp z;rw [keep b o g];rfl
 have q:=af.pre.sat
 refine ⟨?_,⟨af.pre.gens,⟨q.keep,q.newR,fun b hb=>q.newC b (up b hb),?_,q.inj,q.len,q.objs,fun b hb=>q.frs b (up b hb)⟩,⟨P.fr.len,?_,fun i n e1 e2=>?_⟩,hch _ af.pre.ff⟩,?_⟩
 ·rw [af.eq,hs]
 ·have n:=List.nodup_append.mp q.nodup
  exact List.nodup_append.mpr ⟨n.1,hfs▸(List.nodup_append.mp n.2.1).2.1,fun b hb c hc=>n.2.2 b hb c (up c hc)⟩
 ·obtain ⟨m,⟨o,es,ep,g,z⟩,hv⟩:=P.fr.ns
  obtain ⟨sl,e⟩:∃ sl,s'.heap.get? Γ.X.env.locals=some { o with slots:=sl }:=K.loc.elim (fun k=>old _ o k g) fun ⟨o',k⟩=>⟨o.slots,inj_some (P.sat.keep _ _ k) g▸q.keep _ _ k⟩
  exact ⟨m,⟨_,es,ep,e,z⟩,fun i n a e1 e2 e3=>(hv i n a e1 e2 e3).elim fun v q=>⟨v,q.1,q.2.mono k9⟩⟩
 ·obtain ⟨c,o,ov,e3,e4,e5,e6⟩:=P.fr.cel i n e1 e2
  obtain ⟨sl,e⟩:=old _ o (K.cells _ _ e3) e4
  exact ⟨c,_,ov,e3,e,e5,fun a ha=>(e6 a ha).elim fun v q=>⟨v,q.1,q.2.mono k9⟩⟩
 ·refine ⟨fun b hb=>t.live b (alive b hb),fun b o g h1 h2=>?_,fun b o hb g=>t.prot b o (hfs▸List.mem_append_right _ hb) (keep b o g),?_⟩
  ·refine t.same b o (keep b o g) (fun z=>?_) fun z=>(List.mem_append.mp z).elim (fun z=>some_ne (fresh b z) g) (hfs▸h2)
   rw [List.map_append] at z
   exact (List.mem_append.mp z).elim h1 fun z=>(List.mem_map.mp z).elim fun p z=>some_ne (hn1 p z.1) (z.2▸g)
  ·obtain ⟨new,e,hn⟩:=t.ext
   exact ⟨new1++new,by rw [e,List.append_assoc],fun p hp=>(List.mem_append.mp hp).elim (hn1 p) fun hp=>get_none alive (hn p hp)⟩
theorem After.leave {s1:Shared} {st1:St} (P:Pre Γ s R st) (K:FxEnter Γ.G.B Γ.X) (I:Entered s d fd a vals s1) (P1:Pre (Γ.enter d fd.names s.heap.objs.size a) s1 R st1)
  (af:After (Γ.enter d fd.names s.heap.objs.size a) s1 R s' R' st'):After Γ s R s' R' ⟨st.fr,st'.H⟩ :=
 After.leaveG P K rfl (fun h (q:h.FunFrames Γ.G.B (callEnvC d s.heap.objs.size a::Γ.X.chain))=>q.2.2) (entered_fresh (Γ:=Γ) I) I.toInCall.keep (by obtain ⟨h',tk,e⟩:=I.toInCall.same;rw [e]) [] (List.append_nil _).symm (fun _ h=>nomatch h) P1 af
end
end Ab
end
section
namespace Ab
open PySem PySem.W PySem.Calls PyProof.Rows PyProof.Rows.TI
section
variable {Γ Δ:Cx} {s s':Shared} {R R':Reg} {st:St}
theorem Pre.around (P:Pre Γ s R st) (g:Δ.G=Γ.G) (x:Δ.X=Γ.X):Pre Δ s R st:=by
 obtain ⟨G,A,X⟩:=Δ
 cases g;cases x
 exact ⟨P.gens,⟨P.sat.keep,P.sat.newR,P.sat.newC,P.sat.nodup,P.sat.inj,P.sat.len,P.sat.objs,P.sat.frs⟩,P.fr,P.ff⟩
theorem After.around (a:After Γ s R s' R' st) (g:Δ.G=Γ.G) (x:Δ.X=Γ.X):After Δ s R s' R' st:=⟨a.eq,a.pre.around g x,x▸a.step⟩
end
inductive FlRel (h:Heap) (R:Reg):Flow->Fl->Prop where
 | next:FlRel h R .next .next
 | ret {v:Value} {a:AV}:VRel h R v a->FlRel h R (.ret v) (.ret a)
def Back (Γ:Cx) (s:Shared) (R:Reg) (Q:KV) (E:KX) (x:Result) (s':Shared):Prop:=match x with
 | .ok (.ret v)=>Lift Γ VRel s R Q v s'
 | .ok _=>False
 | .error e=>LiftE Γ s R E e s'
def CodeSim (Γ:Cx) (c:Code) (p:PT AV) (s:Shared) (R:Reg):Prop:=∀ Q E,p Q E->codeP Γ.M Γ.A c (Back Γ s R Q E) s
structure RoomD (n:Nat) (A:Around) (X:Fx):Prop where
 handled:A.handled=none
 guards:A.guards=some []
 frames:A.frames=some X.chain
 depth:A.depth + 2 * n + 3 < recursionLimit
 units:A.units+10 * n + 295 < cLine
structure RoomOk (n:Nat) (A:Around) (X:Fx):Prop where
 handled:A.handled=none
 guards:A.guards=some []
 frames:A.frames=some X.chain
 depth:A.depth + 2 * n + 4 < recursionLimit
 units:A.units+10 * n + 300 < cLine
section
variable {n:Nat} {A:Around} {X:Fx}
theorem RoomOk.d (r:RoomOk n A X):RoomD n A X:=⟨r.handled,r.guards,r.frames,Nat.lt_of_succ_lt r.depth,Nat.lt_of_le_of_lt (Nat.add_le_add_left (by decide) _) r.units⟩
theorem typeCall_weight (C:Addr) (rest:List Value):(Code.builtin "type.__call__" ⟨.ref C::rest,[]⟩).weight=1:=by kernel_rfl
theorem typeCall_units (C:Addr) (rest:List Value):(Code.builtin "type.__call__" ⟨.ref C::rest,[]⟩).cUnits=1:=by kernel_rfl
theorem typeCall_guards (C:Addr) (rest:List Value):(Code.builtin "type.__call__" ⟨.ref C::rest,[]⟩).guards=[]:=by kernel_rfl
theorem fill_len {a n d:Nat} (h1:a<=n) (h2:n<=a + d):a + (d - (d - (n - a)))=n:=by omega
theorem RoomOk.making {C:Addr} {rest:List Value} (r:RoomOk n A X):RoomD n (A.under (.builtin "type.__call__" ⟨.ref C::rest,[]⟩)) X:=by
 refine ⟨r.handled,?_,r.frames,?_,?_⟩
 ·simp only [Around.under,typeCall_guards,pushGuards];exact r.guards
 ·have h:=r.depth
  show A.depth + Code.weight _ + 2 * n + 3 < _
  rw [typeCall_weight]
  generalize recursionLimit=k at h ⊢
  generalize A.depth=d at h ⊢
  omega
 ·have h:=r.units
  show A.units + Code.cUnits _+10 * n + 295 < _
  rw [typeCall_units]
  generalize cLine=k at h ⊢
  generalize A.units=d at h ⊢
  omega
theorem RoomD.deeper {env:Env} {X':Fx} (r:RoomD (n+1) A X) (hc:X'.chain=env::X.chain):RoomOk n (A.deeper env) X':=by
 have h1:=r.depth
 have h2:=r.units
 refine ⟨r.handled,r.guards,?_,?_,?_⟩
 ·rw [hc];exact Around.frames_deeper r.frames
 ·show A.depth+1 + 2 * n + 4 < _;omega
 ·show A.units + 3+10 * n + 300 < _;omega
end
structure FnGood (G:Gx) (c f:Nat) (fd:FD):Prop where
 ok:∃ d,FnOk G.B (fa c f) fd d/\okSs fd.line fd.names d.scope.names fd.body=true/\okN fd.names=true
 keep:keepIn G.K (.ref (fa c f))=true
structure ClsOk (G:Gx) (c:Nat):Prop where
 fn:∃ fd,T.fn c 1=some fd
 g:G.mg (Str.ofString (nm c))=some (.ref (CA c))
 makes:makesIn G.K (CA c)=true
 find:findIn G.K (.ref (CA c)) "__init__"=some (some (.ref (fa c 1)))
 ty:typeIn G.K (.ref (fa c 1))=some (.type "function")
 keep:keepIn G.K (.ref (CA c))=true
structure MethOk (K:Frag) (c m:Nat):Prop where
 lt:m < NM
 get:plainGet K (CA c) (Str.ofString (nm m))=true
 find:findIn K (.ref (CA c)) (Str.ofString (nm m))=some (some (.ref (fa c m)))
 isFn:isFn K (.ref (fa c m))=true
structure PrimOk (G:Gx) (x:String) (v:Value):Prop where
 g:G.mg (Str.ofString x)=none
 b:G.mb (Str.ofString x)=some v
structure ExcOk (B:Heap) (C:Addr):Prop where
 ex:∃ nm q N bs bm hdct sn sub ab col dd k0 k1 k2 k3 k5 mN,B.get? C=some (excClassObj nm q C N bs bm hdct sn sub ab col dd k0 k1 k2 k3 k5 "Exception.__new__")/\B.Ns N mN/\mN "__init__"=none ∧
  OwnTail B [.type "Exception",.type "BaseException",.type "object"] bm/\bm.contains (.type "BaseException")=true
structure ExcGood (G:Gx) (c:Nat):Prop where
 g:G.mg (Str.ofString (nm c))=some (.ref (CA c))
 ok:ExcOk G.B (CA c)
structure Stat (G:Gx):Prop where
 frag:G.K.In G.B
 g:G.B.Ns mainGlobals G.mg
 b:G.B.Ns builtinsNs G.mb
 lim:G.B.NoLimit
 glb:∀ x i,T.glb x=some i->∃ t,G.mg (Str.ofString (nm x))=some (.int i t)
 fn:∀ c f fd,T.fn c f=some fd->FnGood G c f fd
 fnG:∀ f fd,T.fn 0 f=some fd->G.mg (Str.ofString (nm f))=some (.ref (fa 0 f))
 prim:∀ p:Prim,PrimOk G p.name (primVal p)
 isb:PrimOk G "isinstance" (.builtin "isinstance")
 cls:∀ c,T.cls c=true->ClsOk G c
 meth:∀ c m fd,T.fn c m=some fd->c≠0->MethOk G.K c m
 field:∀ c a,T.field c a=true->FieldOk G.K (CA c) a
 sub:∀ a b,T.isExc a=true->T.isExc b=true->exmOne G.K (.ref (CA a)) (.ref (CA b))=some (T.sub a b)
 exc:∀ c,T.isExc c=true->ExcGood G c
def CallOk (G:Gx) (n:Nat) (C:Call):Prop:=∀ A X s R st c f fd as vals,T.fn c f=some fd->RoomD n A X->FxOk X->Pre ⟨G,A,X⟩ s R st->VRels s.heap R vals as->CodeSim ⟨G,A,X⟩ (.call (.ref (fa c f)) ⟨vals,[]⟩) (fun Q E=>callK C c f as st Q E) s R
structure Ok (Γ:Cx) (n:Nat) (C:Call):Prop where
 st:Stat Γ.G
 call:CallOk Γ.G n C
 room:RoomOk n Γ.A Γ.X
 fx:FxOk Γ.X
 nms:okN Γ.X.names=true
section
variable {Γ:Cx} {s s':Shared} {R R':Reg} {st st':St} {C:Call} {n:Nat}
theorem CodeSim.call {f:Value} {vals:List Value} {p:PT AV} (h:CodeSim Γ (.call f ⟨vals,[]⟩) p s R):SimAt Γ VRel (PySem.call f vals) p s R:=fun Q E hp=>wpP_call (h Q E hp)
theorem sim_callF {a:Addr} {fd:FD} {d:FuncData} {vals:List Value} {as:List AV} (room:RoomD (n+1) Γ.A Γ.X) (hlim:Γ.G.B.NoLimit) (P:Pre Γ s R st) (K:FxEnter Γ.G.B Γ.X) (F:FnOk Γ.G.B a fd d) (hv:VRels s.heap R vals as)
  (hbody:∀ A' X' s' R' st',RoomOk n A' X'->FxOk X'->FnFx X'->Pre ⟨Γ.G,A',X'⟩ s' R' st'->X'.names=fd.names->X'.env.scope=d.scope->SimAt ⟨Γ.G,A',X'⟩ FlRel (execs (toSs fd.line X'.names fd.body) X'.env) (vSs T C fd.body st') s' R') :
  CodeSim Γ (.call (.ref a) ⟨vals,[]⟩) (fun Q E=>vCall T C fd as st.H (fun v H=>Q v ⟨st.fr,H⟩) fun e H=>E e ⟨st.fr,H⟩) s R:=fun Q E hp=>by
 obtain ⟨hlen,hp⟩:=hp
 obtain ⟨h1,h2⟩:=Bool.and_eq_true_iff.mp hlen
 have h1:=Nat.le_of_ble_eq_true h1
 have h2:=Nat.le_of_ble_eq_true h2
 obtain ⟨more,hm,hb⟩:=F.binds vals (hv.len▸h1) (hv.len▸h2)
 rw [hv.len] at hm
 have hv':VRels s.heap R (vals++more) (as++fd.dflts.drop (fd.dflts.length - (fd.np - as.length))):=hv.app (hm _ _)
 have hlen':(as++fd.dflts.drop (fd.dflts.length - (fd.np - as.length))).length=fd.np:=by
  rw [List.length_append,List.length_drop];exact fill_len h1 h2
 obtain ⟨o,ho,hd⟩:=F.obj
 have hkind:∀ x∈parBinds fd (vals++more),d.scope.names.lookup x.1=some .local\/(d.scope.names.lookup x.1=some .cell/\((cellsFrom (s.heap.objs.size+1) d.scope.names []).lookup x.1).isSome=true):=fun x hx=>by
  obtain ⟨y,hy,e⟩:=List.mem_map.mp (List.of_mem_zip (show (x.1,x.2)∈_ from hx)).1
  exact e▸(F.params y hy).imp id fun q=>⟨q,lookup_cells _ _ _ (.inl (mem_of_lookup q))⟩
 refine codeP_call_cells (Nat.lt_of_le_of_lt (Nat.le_trans (Nat.le_add_right _ _) (Nat.le_add_right _ _)) room.depth) (P.sat.keep _ _ ho) hd (hlim.keeps P.sat.keep) (F.code.keeps P.sat.keep) F.body (hb s P.sat.keep) F.closure hkind (fun s₁ I=>?_) F.co F.gen F.kind
 have P1:=P.enter F hv' hlen' I
 have KX:FxOk (fxOf d fd.names s.heap.objs.size a Γ.X):=fxOf_ok F K I.apart I.above
 have hr':RoomOk n (Γ.A.deeper (callEnvC d s.heap.objs.size a)) (fxOf d fd.names s.heap.objs.size a Γ.X):=room.deeper rfl
 refine wpP_mono (hbody _ (fxOf d fd.names s.heap.objs.size a Γ.X) s₁ R _ hr' KX fxOf_fn P1 rfl rfl _ _ hp) ?_ ?_
 ·rintro f s2 ⟨fl,st2,R2,hq,af,rl⟩
  have af':=After.leave P K I P1 af
  cases rl with
  | ret r=>exact ⟨_,_,R2,hq,af',r⟩
  | next=>exact ⟨_,_,R2,hq,af',.none⟩
 ·rintro x s2 ⟨c,st2,R2,hq,af,ex⟩
  exact wpP_of (leave_station (Γ:=Γ.enter d fd.names s.heap.objs.size a) fxOf_fn hr'.frames KX P1 af ex fun h' af2 ex2 =>
   ⟨c,_,R2,hq,After.leave P K I P1 af2,(ex2 _).mono fun b hb=>by obtain ⟨o,g⟩:=Option.isSome_iff_exists.mp hb;rw [I.toInCall.keep b o g];rfl⟩)
theorem star_cons {L:Nat} {N:List String} {e:AE} {es:List Expr} {env:Env}:starEach (toE L e N::es) env=(false,eval (toE L e N) env)::starEach es env:=by cases e <;> rfl
theorem len_nil:AEs.len .nil=0:=rfl
theorem len_cons {e:AE} {es:AEs}:AEs.len (.cons e es)=AEs.len es+1:=rfl
structure Plain (l:List (Bool×Sem Value)) (n:Nat):Prop where
 any:l.any (·.1)=false
 all:l.all (fun x=>!x.1)=true
 len:l.length=n
theorem plain_es {L:Nat} {N:List String} {env:Env} {pos:Pos}:∀ es:AEs,Plain (backTo pos (starEach (toEs L es N) env)) es.len:=fun es=>by
 induction es using AEs.rec (motive_1:=fun _=>True) with
 | nil=>exact ⟨rfl,rfl,rfl⟩
 | cons e es _ ih=>exact (star_cons (L:=L) (N:=N) (e:=e) (es:=toEs L es N) (env:=env)).symm▸⟨ih.any,ih.all,congrArg (·+1) ih.len⟩
 | _=>trivial
theorem sim_spliced {α:Type} {rel:Rl (List Value) α} {t:Sem Value} {l:List (Bool×Sem Value)} {p:PT AV} {q:AV->St->PT α} (h1:SimAt Γ VRel t p s R)
  (h2:∀ v s1 a st1 R1,After Γ s R s1 R1 st1->VRel s1.heap R1 v a->SimAt Γ rel (PySem.holding [v] (spliced l) >>= fun vs=>pure (v::vs)) (q a st1) s1 R1) :
  SimAt Γ rel (spliced ((false,t)::l)) (fun Q E=>p (fun a st=>q a st Q E) E) s R:=by
 rw [spliced]
 refine SimAt.bind (g:=fun a st=>q a st) h1 fun v s1 a st1 R1 af1 r1=>?_
 simp only [Bool.false_eq_true,if_false]
 exact SimAt.pureBind (h2 v s1 a st1 R1 af1 r1)
structure ArgsRel {α:Type} (rel:Rl (List Value) α) (h:Heap) (R:Reg) (x:Args) (as:α):Prop where
 kw:x.kw=[]
 pos:rel h R x.pos as
section
variable {α:Type} {rel:Rl (List Value) α} {f:Value} {l:List (Bool×Sem Value)} {p:PT α}
theorem sim_evalArgs (hst:l.any (·.1)=false) (h:SimAt Γ rel (spliced l) p s R):SimAt Γ (ArgsRel rel) (evalArgs f true l []) p s R:=by
 have key:evalArgs f true l []=(spliced l >>= fun pos=>PySem.holding (pos++[]) (pure ⟨pos,[]⟩)):=by
  unfold evalArgs
  match l,hst with
  | [],_=>rfl
  | (false,x)::rest,_=>rfl
 rw [key]
 exact fun Q E hp=>wpP_bind (wpP_mono (h Q E hp) (fun vs s1 x=>wpP_holding (wpP_pure (x.casesOn fun a st R h af rl=>⟨a,st,R,h,af,rfl,rl⟩))) fun _ _ x=>x)
structure Kept1 (G:Gx) (f:Value):Prop where
 k:∀ (prog:Program) (w:World) (h:Heap),G.K.In h->∃ k,(k=Keeper.frame\/k=Keeper.machine)/\Looks (model prog w) h (keeperOf f) k
theorem sim_callWith {pos:Pos} {first:List Value} {q:α->St->PT AV} (hst:l.any (·.1)=false) (hK:Γ.G.K.In Γ.G.B) (hk:Kept1 Γ.G f) (ha:SimAt Γ rel (spliced l) p s R)
  (hc:∀ vs as s1 st1 R1,After Γ s R s1 R1 st1->rel s1.heap R1 vs as->SimAt Γ VRel (call f (first++vs)) (q as st1) s1 R1) :
  SimAt Γ VRel (callWith pos f first l []) (fun Q E=>p (fun as st=>q as st Q E) E) s R:=by
 unfold callWith
 refine SimAt.bind (g:=fun as st=>q as st) (sim_evalArgs hst ha).holding fun a s1 as st1 R1 af rl=>SimAt.standAt ?_
 obtain ⟨ap,akw⟩:=a
 obtain ⟨hkw,rl⟩:=rl
 obtain rfl:akw=[]:=hkw
 obtain ⟨k,hk',L⟩:=hk.k Γ.G.prog Γ.G.w _ (inB hK af.pre)
 have hcall:=hc ap as s1 st1 R1 af rl
 have tail:∀ {t:Sem Value},SimAt Γ VRel t (q as st1) s1 R1->SimAt Γ VRel (t >>= fun r=>PySem.holding [r] point >>= fun _=>pure r) (q as st1) s1 R1:=fun ht =>
  SimAt.skipPure (k:=fun r=>PySem.holding [r] point) (fun v s h=>wpAny_holding (wpAny_point h)) ht
 have marked (mk:Value):SimAt Γ VRel (callMarked mk f (first++ap) []) (q as st1) s1 R1:=fun Q E hp=>wpP_keep (hcall Q E hp)
 have hp:(l.any (·.1) || ([]:List (Option Str×Sem Value)).any (·.1.isNone))=false:=by rw [hst];rfl
 simp only [hp]
 refine fun Q E h=>wpP_bind (wpP_of (L.here ?_))
 rcases hk' with rfl|rfl
 ·dsimp only
  split
  ·exact tail hcall Q E h
  ·exact tail (marked _) Q E h
 ·exact tail hcall Q E h
end
theorem kept_fn {G:Gx} {f:Value} (h:keepIn G.K f=true):Kept1 G f:=⟨fun _ _ _ X=>looks_keep h X⟩
theorem kept_builtin {G:Gx} {id:String}:Kept1 G (.builtin id):=⟨fun _ _ _ _=>⟨.machine,.inr rfl,Looks.of_pure rfl⟩⟩
theorem kept_type {G:Gx} {id:String}:Kept1 G (.type id):=⟨fun _ _ _ _=>⟨.machine,.inr rfl,Looks.of_pure rfl⟩⟩
theorem kept_prim {G:Gx} (p:Prim):Kept1 G (primVal p):=by cases p <;> first|exact kept_builtin|exact kept_type
structure GOk (X:Fx) (i:Nat):Prop where
 k:X.env.scope.names.lookup (Str.ofString (nm i))=some .globalImplicit
 d:(Str.ofString (nm i)==("__debug__":Str))=false
theorem bne_false {a b:Str} (h:(a != b)=true):(a==b)=false:=Bool.not_eq_true' _▸h
theorem isK_of {sc:Sc} {x:String} {k:NameKind} (h:isK sc x k=true):sc.lookup (Str.ofString x)=some k:=beq_iff_eq.mp h
theorem gOk_of {X:Fx} {i:Nat} (h:isG X.env.scope.names i=true):GOk X i:=have q:=Bool.and_eq_true_iff.mp h;⟨isK_of q.1,bne_false q.2⟩
noncomputable abbrev newP (C:Call) (f:Nat) (vs:List AV) (st:St) (Q:KV) (E:KX):Prop:=callK C f 1 (.ref st.H.length::vs) ⟨st.fr,st.H++[.inst f []]⟩ (fun v st'=>v=.none/\Q (.ref st.H.length) st') E
section
variable {L:Nat} {N:List String} {es:AEs} {pos q:Pos} {f pn p:Nat} (O:Ok Γ n C)
include O
theorem sim_arm_call (P:Pre Γ s R st) (g:GOk Γ.X f) (ha:SimAt Γ VRels (spliced (backTo pos (starEach (toEs L es N) Γ.X.env))) (vEs T C es st) s R) :
  SimAt Γ VRel (eval (.Call (.Name (Str.ofString (nm f)) q) (toEs L es N) [] pos) Γ.X.env) (vE T C (.call f es pn p) st) s R:=by
 rw [arm_eval_Call_Name']
 refine SimAt.and (p:=fun Q E=>vEs T C es st (fun vs st=>callK C 0 f vs st Q E) E) fun hf Q E hp=>?_
 obtain ⟨fd,e⟩:=Option.isSome_iff_exists.mp hf
 refine wpP_bind (wpP_globalV P O.fx O.st.g g.k g.d (O.st.fnG f fd e) ?_)
 exact sim_callWith (first:=[]) (q:=fun vs st=>callK C 0 f vs st) (plain_es es).any O.st.frag (kept_fn (O.st.fn _ _ _ e).keep) ha (fun vs bs s1 st1 R1 af rl=>(O.call _ _ _ _ _ _ _ _ _ _ e O.room.d O.fx af.pre rl).call) Q E hp
theorem sim_arm_new (P:Pre Γ s R st) (g:GOk Γ.X f) (ha:SimAt Γ VRels (spliced (backTo pos (starEach (toEs L es N) Γ.X.env))) (vEs T C es st) s R) :
  SimAt Γ VRel (eval (.Call (.Name (Str.ofString (nm f)) q) (toEs L es N) [] pos) Γ.X.env) (vE T C (.new f es pn p) st) s R:=by
 rw [arm_eval_Call_Name']
 refine SimAt.and (c:=T.cls f=true) (p:=fun Q E=>vEs T C es st (fun vs st=>newP C f vs st Q E) E) fun hf Q E hp=>?_
 have c:=O.st.cls f hf
 obtain ⟨fd,e⟩:=c.fn
 refine wpP_bind (wpP_globalV P O.fx O.st.g g.k g.d c.g ?_)
 refine sim_callWith (first:=[]) (q:=fun vs st=>newP C f vs st) (plain_es es).any O.st.frag (kept_fn c.keep) ha (fun vs bs s1 st1 R1 af rl Q E hp=>?_) Q E hp
 have P1:=af.pre
 obtain ⟨hh,g,d,t,os⟩:=s1
 have k:∀ b o,hh.get? b=some o->((hh.push emptyDict).push (instObj (CA f) hh.objs.size)).get? b=some o:=fun b o e=>Heap.get?_push_of_some _ (Heap.get?_push_of_some _ e)
 have gI:((hh.push emptyDict).push (instObj (CA f) hh.objs.size)).get? (hh.objs.size+1)=some (instObj (CA f) hh.objs.size):=by
  have:=Heap.get?_push_size (hh.push emptyDict) (o:=instObj (CA f) hh.objs.size) rfl
  rwa [Heap.size_push] at this
 have aA:=After.alloc (s:=⟨hh,g,d,t,os⟩) (h':=(hh.push emptyDict).push (instObj (CA f) hh.objs.size)) (tk:=t) (a:=hh.objs.size+1) (D:=hh.objs.size) (o:=.inst f []) P1 k (get_size_none _)
  (Heap.get?_none_of_le (Nat.le_succ _)) ⟨[],0,gI,Heap.get?_push_of_some _ (Heap.get?_push_size _ rfl),rfl,nofun,(fun _ _ _=>rfl),rfl⟩
 have nr:VRel ((hh.push emptyDict).push (instObj (CA f) hh.objs.size)) (R1++[(hh.objs.size+1,hh.objs.size)]) (.ref (hh.objs.size+1)) (.ref st1.H.length):=newRefV P1
 refine wpP_call (make_coreP (makes_of (inB O.st.frag P1) c.makes) (looks_findIn (inB O.st.frag P1) c.find) (fun self=>bind_fn (inB O.st.frag P1) self c.ty) rfl ?_)
 refine codeP_mono (O.call _ Γ.X _ _ _ _ _ _ _ _ e (O.room.making (C:=CA f) (rest:=vs)) O.fx (aA.pre.around rfl rfl) (VRels.cons nr (rl.mono (aA.keeps9 P1))) _ _ hp) fun x s2 hx=>?_
 rcases x with x|(_|_|_|v)
 ·obtain ⟨c',st2,R2,e2,af2,ex⟩:=hx
  exact ⟨c',st2,R2,e2,aA.trans (af2.around rfl rfl),ex.mono aA.step.live⟩
 ·exact hx.elim
 ·exact hx.elim
 ·exact hx.elim
 ·obtain ⟨a,st2,R2,e2,af2,r2⟩:=hx
  obtain ⟨rfl,e2⟩:=e2
  obtain rfl:=r2.none_v
  exact ⟨rfl,_,st2,R2,e2,aA.trans (af2.around rfl rfl),nr.mono ((After.around (Δ:=Γ) af2 rfl rfl).keeps9 aA.pre)⟩
end
end
end Ab
end
section
namespace Ab
open PySem PySem.W PySem.Calls PyProof.Rows PyProof.Rows.TI
section
variable (L n:Nat) (C:Call)
noncomputable abbrev testP (p:PT AV):PT Bool:=fun Q E=>p (fun v st=>v.isBool fun b=>Q b st) E
noncomputable abbrev opOf (k:Bool):BoolOp:=Bool.casesOn k .Or .And
def SE (e:AE):Prop:=∀ Γ s R st,Ok Γ n C->Pre Γ s R st->okE L e Γ.X.names Γ.X.env.scope.names=true->SimAt Γ VRel (eval (toE L e Γ.X.names) Γ.X.env) (vE T C e st) s R
def ST (e:AE):Prop:=∀ Γ s R st,Ok Γ n C->Pre Γ s R st->okE L e Γ.X.names Γ.X.env.scope.names=true->SimAt Γ BoolRel (isTrue (toE L e Γ.X.names) Γ.X.env (eval (toE L e Γ.X.names) Γ.X.env)) (testP (vE T C e st)) s R
structure VRelsL (n:Nat) (h:Heap) (R:Reg) (vs:List Value) (as:List AV):Prop where
 r:VRels h R vs as
 z:as.length=n
def SEs (es:AEs):Prop:=∀ Γ s R st pos,Ok Γ n C->Pre Γ s R st->okEs L es Γ.X.names Γ.X.env.scope.names=true->SimAt Γ (VRelsL es.len) (spliced (backTo pos (starEach (toEs L es Γ.X.names) Γ.X.env))) (vEs T C es st) s R
def SBs (es:AEs):Prop:=∀ Γ s R st pos k,Ok Γ n C->Pre Γ s R st->okEs L es Γ.X.names Γ.X.env.scope.names=true->SimAt Γ VRel (boolOp pos (opOf k) (evalEach (toEs L es Γ.X.names) Γ.X.env)) (vB T C k es st) s R
def STs (es:AEs):Prop:=∀ Γ s R st k,Ok Γ n C->Pre Γ s R st->okEs L es Γ.X.names Γ.X.env.scope.names=true->SimAt Γ BoolRel (allTrue (opOf k) (toEs L es Γ.X.names) Γ.X.env) (testP (vB T C k es st)) s R
end
section
variable {L n:Nat} {C:Call} {Γ:Cx} {s:Shared} {R:Reg} {st:St}
theorem and_l {a b:Bool} (h:(a&&b)=true):a=true:=(Bool.and_eq_true_iff.mp h).1
theorem and_r {a b:Bool} (h:(a&&b)=true):b=true:=(Bool.and_eq_true_iff.mp h).2
theorem okN_at (h:okN Γ.X.names=true) {i:Nat} (hi:i < Γ.X.names.length):(Str.ofString (Γ.X.names.getD i "")==("__debug__":Str))=false/\(Str.ofString (Γ.X.names.getD i "")==("__classdict__":Str))=false:=by
 have h:=List.all_eq_true.mp h (Γ.X.names.getD i "") (by rw [List.getD_eq_getElem?_getD,List.getElem?_eq_getElem hi];exact List.getElem_mem hi)
 exact ⟨bne_false (and_l h),bne_false (and_r h)⟩
theorem names_at {N:List String} {i:Nat} (hi:i < N.length):N[i]?=some (N.getD i ""):=by rw [List.getD_eq_getElem?_getD,List.getElem?_eq_getElem hi];rfl
structure Slot1 (X:Fx) (i:Nat) (k:Option NameKind->Prop):Prop where
 at':X.names[i]?=some (X.names.getD i "")
 k:k (X.env.scope.names.lookup (Str.ofString (X.names.getD i "")))
 d:(Str.ofString (X.names.getD i "")==("__debug__":Str))=false
 c:(Str.ofString (X.names.getD i "")==("__classdict__":Str))=false
theorem slot_k {i:Nat} {k:NameKind} (O:Ok Γ n C) (h:slotK Γ.X.names Γ.X.env.scope.names i k=true):Slot1 Γ.X i (·=some k) :=
 have hi:=Nat.le_of_ble_eq_true (and_l h)
 have d:=okN_at O.nms hi
 ⟨names_at hi,isK_of (and_r h),d.1,d.2⟩
theorem slot_c {i:Nat} (O:Ok Γ n C) (h:slotC Γ.X.names Γ.X.env.scope.names i=true):Slot1 Γ.X i isCellK :=
 have hi:=Nat.le_of_ble_eq_true (and_l h)
 have d:=okN_at O.nms hi
 ⟨names_at hi,((Bool.or_eq_true _ _).mp (and_r h)).imp isK_of isK_of,d.1,d.2⟩
theorem se_cst {v:AV} {p:Nat}:SE L n C (.cst v p):=fun Γ s R st O P hx=>by
 show SimAt Γ VRel (eval (.Constant (constOf v) 0 (dp L p)) Γ.X.env) (fun Q _=>Q v st) s R
 rw [arm_eval_Constant]
 cases v with
 | none=>exact .leaf P fun k=>wpAny_pure (k _ _ .none)
 | bool b=>exact .leaf P fun k=>wpAny_pure (k _ _ (.bool b))
 | int i=>exact .leaf P fun k=>wpAny_mkInt (k _ _ (.int _ _))
 | bytes b =>
  have z:b.length<=LIM:=Nat.le_trans (Nat.le_of_ble_eq_true hx) (by decide)
  exact .leaf P fun k=>wpAny_bind (wpAny_fresh (wpAny_pure (k _ _ (.bytes _ _ z))))
 | _=>exact nomatch (show false=true from hx)
theorem se_neg {i p q:Nat}:SE L n C (.neg i p q):=fun Γ s R st O P hx=>by
 show SimAt Γ VRel (eval (.UnaryOp .USub (.Constant (.int (i:Int)) 0 (dp L p)) (dp L q)) Γ.X.env) (fun Q _=>Q (.int (-(i:Int))) st) s R
 rw [arm_eval_UnaryOp]
 refine SimAt.bind (rel:=VRel) (p:=fun Q _=>Q (AV.int (i:Int)) st) (g:=fun v st (Q:KV) _=>v.isInt fun i=>Q (.int (-i)) st) ?_ fun v s1 a st1 R1 af1 r1=>.isInt fun j e=>?_
 ·rw [arm_eval_Constant];exact .leaf P fun k=>wpAny_mkInt (k _ _ (.int _ _))
 ·subst e
  obtain ⟨t,rfl⟩:=r1.int_v
  exact .standAt (.holding (.leaf af1.pre fun k=>neg_int (k _ _ (.int _ _))))
theorem se_loc {i p:Nat}:SE L n C (.loc i p):=fun Γ s R st O P hx =>
 have q:=slot_k O hx
 .getFr fun v hv=>sim_Name q.d (sim_loc P O.fx q.at' q.k hv)
theorem se_cel {i p:Nat}:SE L n C (.cel i p):=fun Γ s R st O P hx =>
 have q:=slot_c O hx
 .getFr fun v hv=>sim_Name q.d (sim_cel P O.fx q.at' q.k hv q.c)
theorem se_glb {x p:Nat}:SE L n C (.glb x p):=fun Γ s R st O P hx =>
 have q:=gOk_of hx
 .opt fun i e=>(O.st.glb x i e).elim fun t hm=>sim_Name q.d (sim_global P O.fx O.st.g q.k hm (.int _ _))
section
variable {e l r o:AE} {es:AEs} {p q x y:Nat}
theorem se_bin {op:Operator} (hl:SE L n C l) (hr:SE L n C r):SE L n C (.bin op l r p):=fun _ s R st O P hx =>
 sim_BinOp (hl _ s R st O P (and_l hx)) fun s1 st1 R1 P1=>hr _ s1 R1 st1 O P1 (and_r hx)
theorem not_marked {N:List String} {op:CmpOp}:behindInMarks op (toE L e N)=false:=by cases e <;> rfl
theorem units8 (O:Ok Γ n C):Γ.A.units + 8 < cLine:=by
 have h:=O.room.units
 generalize cLine=k at h ⊢
 omega
theorem se_cmp {op:CmpOp} (hl:SE L n C l) (hr:SE L n C r):SE L n C (.cmp op l r p):=fun _ s R st O P hx =>
 sim_Compare (units8 O) not_marked (hl _ s R st O P (and_l hx)) fun s1 st1 R1 P1=>hr _ s1 R1 st1 O P1 (and_r hx)
theorem st_cmp {op:CmpOp} (hl:SE L n C l) (hr:SE L n C r):ST L n C (.cmp op l r p):=fun _ s R st O P hx =>
 sim_CompareT (units8 O) not_marked (hl _ s R st O P (and_l hx)) fun s1 st1 R1 P1=>hr _ s1 R1 st1 O P1 (and_r hx)
theorem se_not (h:SE L n C e):SE L n C (.not e p):=fun _ s R st O P hx=>sim_Not (h _ s R st O P hx)
theorem st_not (h:ST L n C e):ST L n C (.not e p):=fun Γ s R st O P hx=>by
 show SimAt Γ BoolRel (isTrue (toE L e Γ.X.names) Γ.X.env (eval (toE L e Γ.X.names) Γ.X.env) >>= fun b=>pure (!b)) (fun Q E=>vE T C e st (fun v st=>v.isBool fun b=>Q (!b) st) E) s R
 exact SimAt.map (p:=testP (vE T C e st)) (f:=fun b=>!b) (g:=fun b=>!b) (h _ s R st O P hx) fun h R b a e=>congrArg _ e
theorem se_bop {k:Bool} (h:SBs L n C es):SE L n C (.bop k es p):=fun Γ s R st O P hx=>by
 show SimAt Γ VRel (eval (.BoolOp (opOf k) (toEs L es Γ.X.names) (dp L p)) Γ.X.env) (vB T C k es st) s R
 rw [arm_eval_BoolOp]
 exact h _ s R st _ k O P hx
theorem st_bop {k:Bool} (h:STs L n C es):ST L n C (.bop k es p):=fun Γ s R st O P hx=>h _ s R st k O P hx
theorem sb_nil:SBs L n C .nil:=fun _ _ _ _ _ _ _ _ _=>.no
theorem stb_nil:STs L n C .nil:=fun _ _ _ _ _ _ _ _=>.no
theorem sb_one (h:SE L n C e):SBs L n C (.cons e .nil):=fun Γ s R st _ _ O P hx=>h _ s R st O P (and_l hx)
theorem sim_ifb {α β:Type} {rel:Rl β α} {t:Sem β} {b:Bool} {p q:PT α} (h1:b=true->SimAt Γ rel t p s R) (h2:b=false->SimAt Γ rel t q s R):SimAt Γ rel t (fun Q E=>ifb b (p Q E) (q Q E)) s R:=by
 cases b
 ·exact h2 rfl
 ·exact h1 rfl
theorem sb_more {e':AE} {es:AEs} (h:SE L n C e) (hs:SBs L n C (.cons e' es)):SBs L n C (.cons e (.cons e' es)):=fun Γ s R st pos k O P hx=>by
 show SimAt Γ VRel (eval (toE L e Γ.X.names) Γ.X.env >>= fun v=>standAt pos >>= fun _=>PySem.holding [v] (truthy v) >>= fun t=>match (generalizing:=false) opOf k,t with
  | .And,false|.Or,true=>pure v
  | _,_=>boolOp pos (opOf k) (evalEach (toEs L (.cons e' es) Γ.X.names) Γ.X.env)) (fun Q E=>vE T C e st (fun v st=>v.isBool fun b=>Bool.casesOn k (ifb b (Q v st) (vB T C k (.cons e' es) st Q E)) (ifb b (vB T C k (.cons e' es) st Q E) (Q v st))) E) s R
 refine SimAt.bind (p:=vE T C e st) (g:=fun v st Q E=>v.isBool fun b=>Bool.casesOn k (ifb b (Q v st) (vB T C k (.cons e' es) st Q E)) (ifb b (vB T C k (.cons e' es) st Q E) (Q v st))) (h _ s R st O P (and_l hx)) fun v s1 b st1 R1 af1 r1=>.standAt ?_
 refine SimAt.bind (rel:=BoolRel) (p:=fun Q _=>b.isBool fun t=>Q t st1) (g:=fun t st Q E=>Bool.casesOn k (ifb t (Q b st) (vB T C k (.cons e' es) st Q E)) (ifb t (vB T C k (.cons e' es) st Q E) (Q b st))) (sim_truthy af1.pre r1).holding fun t' s2 t st2 R2 af2 rl=>?_
 obtain rfl:t'=t:=rl
 have go:=hs _ s2 R2 st2 pos k O af2.pre (and_r hx)
 have ok:SimAt Γ VRel (pure v) (fun Q _=>Q b st2) s2 R2:=SimAt.ok af2.pre (r1.mono (af2.keeps9 af1.pre))
 cases k <;> cases t' <;> first|exact go|exact ok
theorem stb_one (h:ST L n C e):STs L n C (.cons e .nil):=fun Γ s R st k O P hx=>by
 show SimAt Γ BoolRel (isTrue (toE L e Γ.X.names) Γ.X.env (eval (toE L e Γ.X.names) Γ.X.env) >>= fun t=>match (generalizing:=false) opOf k,t with
  | .And,false=>pure false
  | .Or,true=>pure true
  | _,_=>pure (opOf k==.And)) (testP (vE T C e st)) s R
 refine SimAt.bind (p:=testP (vE T C e st)) (g:=fun b st Q _=>Q b st) (h _ s R st O P (and_l hx)) fun t' s1 t st1 R1 af1 rl=>?_
 obtain rfl:t'=t:=rl
 cases k <;> cases t' <;> exact SimAt.ok af1.pre rfl
theorem stb_more {e':AE} {es:AEs} (h:ST L n C e) (hs:STs L n C (.cons e' es)):STs L n C (.cons e (.cons e' es)):=fun Γ s R st k O P hx=>by
 show SimAt Γ BoolRel (isTrue (toE L e Γ.X.names) Γ.X.env (eval (toE L e Γ.X.names) Γ.X.env) >>= fun t=>match (generalizing:=false) opOf k,t with
  | .And,false=>pure false
  | .Or,true=>pure true
  | _,_=>allTrue (opOf k) (toEs L (.cons e' es) Γ.X.names) Γ.X.env) (testP (fun Q E=>vE T C e st (fun v st=>v.isBool fun b=>Bool.casesOn k (ifb b (Q v st) (vB T C k (.cons e' es) st Q E)) (ifb b (vB T C k (.cons e' es) st Q E) (Q v st))) E)) s R
 refine fun Q E hp=>SimAt.bind (p:=testP (vE T C e st)) (g:=fun t st Q E=>Bool.casesOn k (ifb t (Q t st) (testP (vB T C k (.cons e' es) st) Q E)) (ifb t (testP (vB T C k (.cons e' es) st) Q E) (Q t st))) (h _ s R st O P (and_l hx)) (fun t' s1 t st1 R1 af1 rl=>?_) Q E ?_
 ·obtain rfl:t'=t:=rl
  have go:=hs _ s1 R1 st1 k O af1.pre (and_r hx)
  have ok:SimAt Γ BoolRel (pure t') (fun Q _=>Q t' st1) s1 R1:=SimAt.ok af1.pre rfl
  cases k <;> cases t' <;> first|exact go|exact ok
 ·have e1:(fun v st=>v.isBool fun t=>Bool.casesOn k (ifb t (Q t st) (testP (vB T C k (.cons e' es) st) Q E)) (ifb t (testP (vB T C k (.cons e' es) st) Q E) (Q t st)):KV) =
    fun v st=>v.isBool fun b=>Bool.casesOn k (ifb b (v.isBool fun b=>Q b st) (testP (vB T C k (.cons e' es) st) Q E)) (ifb b (testP (vB T C k (.cons e' es) st) Q E) (v.isBool fun b=>Q b st)):=funext fun v=>funext fun st=>by cases v <;> rfl
  exact Eq.mpr (congrArg (fun q=>vE T C e st q E) e1) hp
end
end
end Ab
end
section
namespace Ab
open PySem PySem.W PySem.Calls PyProof.Rows PyProof.Rows.TI
section
variable {L n:Nat} {C:Call} {Γ:Cx} {s:Shared} {R:Reg} {st:St} {e l r o:AE} {es:AEs} {p q x y:Nat}
theorem ses_nil:SEs L n C .nil:=fun _ _ _ _ _ O P hx=>SimAt.ok P ⟨.nil,rfl⟩
theorem ses_cons (h:SE L n C e) (hs:SEs L n C es):SEs L n C (.cons e es):=fun Γ s R st pos O P hx=>by
 show SimAt Γ (VRelsL (es.len+1)) (spliced (backTo pos (starEach (toE L e Γ.X.names::toEs L es Γ.X.names) Γ.X.env))) (vEs T C (.cons e es) st) s R
 rw [star_cons]
 refine sim_spliced (l:=backTo pos (starEach (toEs L es Γ.X.names) Γ.X.env)) (q:=fun v st Q E=>vEs T C es st (fun vs st=>Q (v::vs) st) E) (h _ s R st O P (and_l hx)) fun v s1 a st1 R1 af1 r1=>?_
 exact SimAt.bind (p:=vEs T C es st1) (g:=fun vs st Q _=>Q (a::vs) st) (hs _ s1 R1 st1 pos O af1.pre (and_r hx)).holding fun v2 s2 bs st2 R2 af2 r2=>SimAt.ok af2.pre ⟨VRels.cons (r1.mono (af2.keeps9 af1.pre)) r2.r,congrArg (·+1) r2.z⟩
theorem SEs.at (h:SEs L n C es) (O:Ok Γ n C) (P:Pre Γ s R st) (hx:okEs L es Γ.X.names Γ.X.env.scope.names=true) {pos:Pos}:SimAt Γ VRels (spliced (backTo pos (starEach (toEs L es Γ.X.names) Γ.X.env))) (vEs T C es st) s R :=
 (h _ s R st pos O P hx).weaken fun _ _ _ _ x=>x.r
theorem se_call {f:Nat} (h:SEs L n C es):SE L n C (.call f es p q):=fun Γ s R st O P hx=>sim_arm_call O P (gOk_of (and_l (and_l hx))) (h.at O P (and_r hx))
theorem se_new {f:Nat} (h:SEs L n C es):SE L n C (.new f es p q):=fun Γ s R st O P hx=>sim_arm_new O P (gOk_of (and_l (and_l hx))) (h.at O P (and_r hx))
theorem base_eq {N:List String} {a:Str} {env:Env} {t:Sem Value} (h:notSup e=true):attributeBase (toE L e N) a env t=t:=by
 cases e <;> first|rfl|(rename_i es _ _;cases es <;> first|rfl|cases h)
theorem len_es {N:List String}:∀ es:AEs,(toEs L es N).length=es.len:=fun es=>by
 induction es using AEs.rec (motive_1:=fun _=>True) with
 | nil=>rfl
 | cons e es _ ih=>exact congrArg (·+1) ih
 | _=>trivial
theorem form_true {N:List String} {pos:Pos} {env:Env} (hl:lenOk es=true):methodCallForm ((toEs L es N).length + ([]:List Keyword).length) (backTo pos (starEach (toEs L es N) env)) (backToKw pos (keywordEach [] env))=true:=by
 unfold methodCallForm
 rw [(plain_es (L:=L) (N:=N) (env:=env) (pos:=pos) es).all,len_es]
 exact decide_eq_true (Nat.lt_of_le_of_lt (Nat.le_of_ble_eq_true hl) (by decide))
theorem posAt {o:Expr} {env:Env} {pa:Nat} (h:lineOk L pa p=true):methodCallPos true o env (dp L pa) (dp L p)=pure (dp L p):=by
 unfold methodCallPos
 rw [show ((dp L pa).endLine==(dp L p).line)=true from beq_iff_eq.mpr (Nat.eq_of_beq_eq_true h)];rfl
theorem sim_method {m:Str} {pa:Nat} {f:Value} {v:Value} {k:List AV->St->PT AV} (O:Ok Γ n C) (hline:lineOk L pa p=true) (hl:lenOk es=true) (hes:okEs L es Γ.X.names Γ.X.env.scope.names=true) (h:SEs L n C es) (P:Pre Γ s R st) (hk:Kept1 Γ.G f) {ob:Expr}
  (hf:∀ {pl:Sem Bool} {Q:Value×List Value->Shared->Prop} {E:Value->Shared->Prop},Q (f,[v]) s->wpAny Γ.M Γ.A (getMethod v m pl) Q E s)
  (hc:∀ vs as s1 st1 R1,After Γ s R s1 R1 st1->VRels s1.heap R1 vs as->SimAt Γ VRel (call f (v::vs)) (k as st1) s1 R1) :
  SimAt Γ VRel (methodCall ob m (dp L pa) (dp L p) Γ.X.env v ((toEs L es Γ.X.names).length + ([]:List Keyword).length) (backTo (dp L p) (starEach (toEs L es Γ.X.names) Γ.X.env)) (backToKw (dp L p) (keywordEach [] Γ.X.env))) (fun Q E=>vEs T C es st (fun vs st=>k vs st Q E) E) s R:=fun Q E hp=>by
 unfold methodCall
 rw [form_true hl]
 refine wpP_bind (wpP_holding (wpP_of (hf ?_)))
 dsimp only
 rw [posAt hline]
 exact wpP_bind (wpP_pure (sim_callWith (first:=[v]) (q:=k) (plain_es es).any O.st.frag hk (h.at O P hes) hc Q E hp))
theorem se_meth {m:Nat} (ho:SE L n C o) (h:SEs L n C es):SE L n C (.meth o m es p q):=fun Γ s R st O P hx=>by
 show SimAt Γ VRel (eval (.Call (.Attribute (toE L o Γ.X.names) (Str.ofString (nm m)) (dp L p)) (toEs L es Γ.X.names) [] (dp L q)) Γ.X.env) _ s R
 have h1:=and_l (and_l hx)
 rw [arm_eval_Call,base_eq (and_r (and_l h1))]
 refine SimAt.bind (p:=vE T C o st) (g:=fun a st Q E=>a.isRef fun l=>Ins st.H l fun c fs=>(T.fn c m).isSome=true/\c≠0/\fget m fs=none/\vEs T C es st (fun vs st=>callK C c m (.ref l::vs) st Q E) E) (ho _ s R st O P (and_r (and_l hx))) fun v1 s1 a st1 R1 af1 r1=>.standAt ?_
 refine .isRef fun l e=>.ins fun c fs hH=>.and fun hf=>.and fun hc=>.and fun hn=>?_
 subst e
 obtain ⟨fd,e⟩:=Option.isSome_iff_exists.mp hf
 have M:=O.st.meth c m fd e hc
 obtain ⟨ad,D,des,dn,rfl,g,g1,g2,_,fm⟩:=af1.pre.ins r1 hH
 refine sim_method (k:=fun vs st=>callK C c m (.ref l::vs) st) O (and_l (and_l h1)) (and_r h1) (and_r hx) h af1.pre (kept_fn (O.st.fn _ _ _ e).keep) (fun hq=>?_) fun vs bs s2 st2 R2 af rl=>?_
 ·exact method_fn (K:=Γ.G.K) (inB O.st.frag af1.pre) (od:=some (dictOf des dn)) ⟨g1,rfl,rfl,g2⟩ (plainGet_of M.get).1 (plainGet_of M.get).2 M.find (beq_iff_eq.mp M.isFn) (by show (lookIn (Str.ofString (nm m)) (dictOf des dn)).map _=_;rw [lookIn_dict,fm.nn m M.lt hn];rfl) hq
 ·exact (O.call _ _ _ _ _ _ _ _ _ _ e O.room.d O.fx af.pre (VRels.cons (r1.mono (af.keeps9 af1.pre)) rl)).call
theorem se_lmeth {m:LM} (ho:SE L n C o) (h:SEs L n C es):SE L n C (.lmeth o m es p q):=fun Γ s R st O P hx=>by
 show SimAt Γ VRel (eval (.Call (.Attribute (toE L o Γ.X.names) (Str.ofString m.name) (dp L p)) (toEs L es Γ.X.names) [] (dp L q)) Γ.X.env) _ s R
 have h1:=and_l (and_l hx)
 rw [arm_eval_Call,base_eq (and_r (and_l h1))]
 refine SimAt.bind (p:=vE T C o st) (g:=fun a st Q E=>lmK m a st.H/\vEs T C es st (fun vs st=>lmP m a vs st Q) E) (ho _ s R st O P (and_r (and_l hx))) fun v1 s1 a st1 R1 af1 r1=>.standAt (.and fun hk=>?_)
 exact sim_method (k:=fun vs st Q _=>lmP m a vs st Q) O (and_l (and_l h1)) (and_r h1) (and_r hx) h af1.pre kept_builtin (fun hq=>lm_method af1.pre r1 hk hq) fun vs bs s2 st2 R2 af rl=>sim_lmCall O.fx af.pre (r1.mono (af.keeps9 af1.pre)) rl
theorem se_attr {a:Nat} (ho:SE L n C o):SE L n C (.attr o a p):=fun Γ s R st O P hx=>by
 show SimAt Γ VRel (eval (.Attribute (toE L o Γ.X.names) (Str.ofString (nm a)) (dp L p)) Γ.X.env) _ s R
 rw [arm_eval_Attribute,base_eq (and_l hx)]
 refine SimAt.bind (p:=vE T C o st) (g:=fun v st Q _=>v.isRef fun l=>Ins st.H l fun c fs=>T.field c a=true/\optP (fget a fs) fun r=>Q r st) (ho _ s R st O P (and_r hx)) fun v1 s1 v st1 R1 af1 r1=>.standAt (.isRef fun l e=>.ins fun c fs hH=>.and fun hf=>?_)
 subst e
 exact .skipPure (fun _ _ h=>wpAny_letTemporaryGo h) (sim_getAttr O.st.frag af1.pre r1 hH (O.st.field c a hf)).holding
theorem se_sub (ho:SE L n C o) (hi:SE L n C e):SE L n C (.sub o e p):=fun Γ s R st O P hx=>sim_Subscript (q:=0) rfl (ho _ s R st O P (and_l hx)) fun s1 st1 R1 P1=>hi _ s1 R1 st1 O P1 (and_r hx)
theorem isAbs_eq (h:isAbs e=true):e=.abs:=by cases e <;> first|rfl|exact nomatch (show false=true from h)
theorem sim_bound (h:SE L n C e) (O:Ok Γ n C) (P:Pre Γ s R st) (hx:(isAbs e || okE L e Γ.X.names Γ.X.env.scope.names)=true):SimAt Γ VRel (valueOrNone (evalOpt (optE e (toE L e Γ.X.names)) Γ.X.env)) (vE T C e st) s R:=by
 cases ha:isAbs e with
 | true =>
  obtain rfl:=isAbs_eq ha
  exact .ok P .none
 | false =>
  rw [ha] at hx
  unfold optE
  rw [ha]
  exact h _ s R st O P hx
theorem se_slc (ho:SE L n C o) (hl:SE L n C l) (hr:SE L n C r):SE L n C (.slc o l r p q):=fun Γ s R st O P hx =>
 sim_Slc (ho _ s R st O P (and_l (and_l hx))) (fun s1 st1 R1 P1=>sim_bound hl O P1 (and_r (and_l hx))) fun s1 st1 R1 P1=>sim_bound hr O P1 (and_r hx)
theorem len_lim {as:List AV} (h:lenOk es=true) (z:as.length=es.len):as.length<=LIM:=z▸Nat.le_trans (Nat.le_of_ble_eq_true h) (by decide)
theorem se_lst (h:SEs L n C es):SE L n C (.lst es p):=fun Γ s R st O P hx=>by
 show SimAt Γ VRel (eval (.List (toEs L es Γ.X.names) (dp L p)) Γ.X.env) _ s R
 rw [arm_eval_List]
 exact .standAt (SimAt.bind (p:=vEs T C es st) (g:=fun vs st (Q:KV) _=>Q (.ref st.H.length) ⟨st.fr,st.H++[.list vs]⟩) (h _ s R st _ O P (and_r hx)) fun vs s1 bs st1 R1 af1 r1=>sim_newList af1.pre r1.r (len_lim (and_l hx) r1.z))
theorem sim_newTuple {vs:List Value} {as:List AV} (P:Pre Γ s R st) (r:VRels s.heap R vs as) (hz:as.length<=LIM):SimAt Γ VRel (newTuple vs) (fun Q _=>Q (.tup as) st) s R:=.rule fun Q E hp =>
 wpAny_newTuple (tup_made P (fun _ _ e=>Heap.get?_push_of_some _ e) (Heap.get?_push_size _ rfl) hz r hp) (by rw [r.len];exact Nat.le_trans hz LIM_line)
theorem se_tup (h:SEs L n C es):SE L n C (.tup es p):=fun Γ s R st O P hx=>by
 show SimAt Γ VRel (eval (.Tuple (toEs L es Γ.X.names) 0 (dp L p)) Γ.X.env) _ s R
 rw [arm_eval_Tuple]
 exact .standAt (SimAt.bind (p:=vEs T C es st) (g:=fun vs st (Q:KV) _=>Q (.tup vs) st) (h _ s R st _ O P (and_r hx)) fun vs s1 bs st1 R1 af1 r1=>sim_newTuple af1.pre r1.r (len_lim (and_l hx) r1.z))
theorem prim_debug (p:Prim):(Str.ofString p.name==("__debug__":Str))=false:=by cases p <;> decide
theorem se_prim {k:Prim} (h:SEs L n C es):SE L n C (.prim k es p q):=fun Γ s R st O P hx=>by
 show SimAt Γ VRel (eval (.Call (.Name (Str.ofString k.name) (dp L p)) (toEs L es Γ.X.names) [] (dp L q)) Γ.X.env) (fun Q E=>vEs T C es st (fun vs st=>primP k vs st Q) E) s R
 rw [arm_eval_Call_Name']
 have k1:=O.st.prim k
 exact fun Q E hp=>wpP_bind (wpP_builtinV P O.fx O.st.g O.st.b (isK_of (and_l (and_l hx))) (prim_debug k) k1.g k1.b
  (sim_callWith (first:=[]) (q:=fun vs st Q _=>primP k vs st Q) (plain_es es).any O.st.frag (kept_prim k) (h.at O P (and_r hx)) (fun vs bs s1 st1 R1 af rl=>sim_prim O.room.handled O.fx af.pre rl) Q E hp))
inductive IsbV (h:Heap) (R:Reg) (vs:List Value) (a:AV):Prop
 | mk (u:Value) (e:vs=[u,.type "bytes"]) (r:VRel h R u a)
theorem se_isb (h:SE L n C e):SE L n C (.isb e p q x):=fun Γ s R st O P hx=>by
 show SimAt Γ VRel (eval (.Call (.Name "isinstance" (dp L p)) [toE L e Γ.X.names,.Name "bytes" (dp L q)] [] (dp L x)) Γ.X.env) (fun Q E=>vE T C e st (fun a st=>a.isBytes fun _=>Q (.bool true) st) E) s R
 rw [arm_eval_Call_Name']
 have k1:=O.st.isb
 have k2:=O.st.prim .bytes
 have hsp:SimAt Γ IsbV (spliced (backTo (dp L x) (starEach [toE L e Γ.X.names,.Name "bytes" (dp L q)] Γ.X.env))) (vE T C e st) s R:=by
  rw [star_cons]
  refine sim_spliced (l:=[(false,eval (.Name "bytes" (dp L q)) Γ.X.env)]) (q:=fun a st (Q:AV->St->Prop) _=>Q a st) (h _ s R st O P (and_r hx)) fun v s1 a st1 R1 af1 r1=>?_
  refine fun Q E hp=>wpP_bind (wpP_holding ?_)
  rw [spliced]
  refine wpP_bind (wpP_builtinV af1.pre O.fx O.st.g O.st.b (isK_of (and_r (and_l hx))) (by decide) k2.g k2.b ?_)
  simp only [Bool.false_eq_true,if_false]
  exact wpP_bind (wpP_pure (wpP_bind (wpP_holding (wpP_pure (wpP_pure (wpP_pure ⟨a,st1,R1,hp,.refl af1.pre,v,rfl,r1⟩))))))
 have hst:(backTo (dp L x) (starEach [toE L e Γ.X.names,.Name "bytes" (dp L q)] Γ.X.env)).any (·.1)=false:=by rw [star_cons];rfl
 refine fun Q E hp=>wpP_bind (wpP_builtinV P O.fx O.st.g O.st.b (isK_of (and_l (and_l hx))) (by decide) k1.g k1.b
  (sim_callWith (first:=[]) (q:=fun a st (Q:KV) _=>a.isBytes fun _=>Q (.bool true) st) hst O.st.frag kept_builtin hsp (fun vs a s1 st1 R1 af rl=>?_) Q E hp))
 obtain ⟨u,rfl,ru⟩:=rl
 exact .isBytes fun b f=>sim_isBytes af.pre (f▸ru)
end
end Ab
end
section
namespace Ab
open PySem PySem.W PySem.Calls PyProof.Rows PyProof.Rows.TI
section
variable {Γ:Cx} {s s':Shared} {R R':Reg} {st st':St} {h h':Heap} {it:Addr} {all:List AV} {wt:Option Nat} {i:Nat}
inductive IterSt (h:Heap) (R:Reg) (it:Addr):List AV->Option Nat->Nat->Prop where
 | rng {n i:Nat}:IsRangeIter h it (i:Int) ((n:Int) - (i:Int)) 1->IterSt h R it (rngItems n) none i
 | bytes {b:List UInt8} {t:Tok} {i:Nat}:KBw.IsBytesIter h it b.toArray t i->IterSt h R it (octInts b) none i
 | tup {t:Addr} {vs:List Value} {all:List AV} {i:Nat}:h.IsTupleIter it t i->h.TupAt t vs->VRels h R vs all->IterSt h R it all none i
 | list {l:Nat} {p:Addr×Addr} {all:List AV} {i:Nat}:R[l]?=some p->h.IsListIter it p.1 i->IterSt h R it all (some l) i
inductive ItObj (h:Heap) (it:Addr):Prop
 | mk (o:Obj) (vs:Array Value) (g:h.get? it=some o) (d:o.data=.fields vs) (c:o.cls≠.type "range") (k:∀ n,o.cls=.type n->["enumerate","zip","dict_itemiterator","dict_reverseitemiterator","odict_iterator","itertools.zip_longest","itertools.pairwise"].contains n=false) (t:∃ n,o.cls=.type n)
theorem itObj_of {o:Obj} {vs:Array Value} {n:String} (g:h.get? it=some o) (hd:o.data=.fields vs) (hc:o.cls=.type n) (h1:n≠"range") (h2:["enumerate","zip","dict_itemiterator","dict_reverseitemiterator","odict_iterator","itertools.zip_longest","itertools.pairwise"].contains n=false):ItObj h it :=
 ⟨o,vs,g,hd,fun q=>h1 (by injection hc.symm.trans q),fun m q=>(by injection hc.symm.trans q:n=m)▸h2,n,hc⟩
theorem IterSt.obj (x:IterSt h R it all wt i):ItObj h it:=by
 cases x with
 | rng q=>exact itObj_of q rfl rfl (by decide) (by decide)
 | bytes q=>obtain ⟨o,g,hc,hd⟩:=q;exact itObj_of g hd hc (by decide) (by decide)
 | tup q _ _=>obtain ⟨o,g,hc,hd⟩:=q;exact itObj_of g hd hc (by decide) (by decide)
 | list _ q=>obtain ⟨o,g,hc,hd⟩:=q;exact itObj_of g hd hc (by decide) (by decide)
theorem IterSt.mono (x:IterSt h R it all wt i) (hk:∀ o,h.get? it=some o->h'.get? it=some o) (k9:Keeps9 h R h' R'):IterSt h' R' it all wt i:=by
 cases x with
 | rng q=>exact .rng (hk _ q)
 | bytes q=>obtain ⟨o,g,r⟩:=q;exact .bytes ⟨o,hk _ g,r⟩
 | tup q t v=>obtain ⟨o,g,r⟩:=q;exact .tup ⟨o,hk _ g,r⟩ (k9.tup _ _ t) (v.mono k9)
 | list e q=>obtain ⟨o,g,r⟩:=q;exact .list (k9.reg _ _ e) ⟨o,hk _ g,r⟩
theorem ItObj.keeps9 (x:ItObj h it) (e:Heap.ExtBut it h h'):Keeps9 h R h' R:=by
 obtain ⟨o,vs,g,hd,hc,_,_⟩:=x
 exact ⟨fun a us ⟨o',n,g',c,d⟩=>⟨o',n,e a o' (fun q=>by rw [(inj_some (q▸g') g:o'=o),hd] at d;cases d) g',c,d⟩,fun a _ _ _ _ _ _ r=>e a _ (fun q=>hc (inj_some (q▸r) g▸rfl)) r,fun _ _ e=>e⟩
theorem isTuple_at {t:Addr} {vs:List Value} (x:h.TupAt t vs):h.IsTuple t vs.toArray:=let ⟨o,n,e,hc,hd⟩:=x;⟨o,e,hc,n,hd⟩
theorem get_out {α:Type} {xs:List α} {i:Nat} (h:xs[i]?=none):xs.length<=i:=List.getElem?_eq_none_iff.mp h
theorem iter_next {Q:Option Value->Shared->Prop} {E:Value->Shared->Prop} (hh:Γ.A.handled=none) (P:Pre Γ s R st) (x:IterSt s.heap R it all wt i) (hs:stands wt all st.H) (hle:i<=all.length)
  (h1:∀ a v h' tk,all[i]?=some a->VRel s.heap R v a->Heap.ExtBut it s.heap h'->IterSt h' R it all wt (i+1)->Q (some v) { s with heap:=h',toks:=tk })
  (h2:∀ h',all[i]?=none->Heap.ExtBut it s.heap h'->Q none { s with heap:=h' }):wpAny Γ.M Γ.A (pyNext (.ref it)) Q E s:=by
 have k9:∀ {h'},Heap.ExtBut it s.heap h'->Keeps9 s.heap R h' R:=x.obj.keeps9
 cases x with
 | @rng n i q =>
  by_cases hi:i < n
  ·refine wpAny_pyNext_range_item q (by omega) fun h' hit hs'=>h1 (.int (i:Int)) _ h' _ (by rw [rngItems,List.getElem?_map,List.getElem?_range hi];rfl) (.int _ _) hs'.extBut ?_
   refine .rng ?_
   rw [Int.natCast_succ,<-Int.sub_sub];exact hit
  ·exact wpAny_pyNext_range_end hh q (by omega) fun h' he=>h2 h' (List.getElem?_eq_none (by rw [rngItems,List.length_map,List.length_range];exact Nat.not_lt.mp hi)) he
 | @bytes b t i q =>
  cases hb:b[i]? with
  | some c=>exact KBw.next_item q (by rw [List.getElem?_toArray];exact hb) fun h' hit hs'=>h1 (.int c.toNat) _ h' _ (by rw [octInts,List.getElem?_map,hb];rfl) (.int _ _) hs'.extBut (.bytes hit)
  | none=>exact KBw.next_end hh q (by rw [List.getElem?_toArray];exact hb) fun h' he=>h2 h' (by rw [octInts,List.getElem?_map,hb];rfl) he
 | @tup t vs all i q ht hv =>
  cases hb:all[i]? with
  | some a =>
   obtain ⟨v,e,rv⟩:=hv.get hb
   exact wpAny_pyNext_tuple_item q (isTuple_at ht) (by rw [List.getElem?_toArray];exact e) fun h' hit hs'=>have k:=k9 hs'.extBut;h1 _ _ h' s.toks hb rv hs'.extBut (.tup hit (k.tup _ _ ht) (hv.mono k))
  | none=>exact wpAny_pyNext_tuple_end hh q (isTuple_at ht) (by rw [List.getElem?_toArray];exact List.getElem?_eq_none (hv.len▸get_out hb)) fun h' he=>h2 h' hb he
 | @list l p all i e q =>
  obtain ⟨vs,n,ep,z,g,hv⟩:=P.sat.objs _ _ _ e hs
  have g:=ep▸g
  cases hb:all[i]? with
  | some a =>
   obtain ⟨v,e',rv⟩:=hv.get hb
   exact wpAny_pyNext_list_item q (isList g) (by rw [List.getElem?_toArray];exact e') fun h' hit hs'=>h1 _ _ h' s.toks hb rv hs'.extBut (.list e hit)
  | none=>exact wpAny_pyNext_list_end hh q (isList g) (by rw [List.getElem?_toArray];exact List.getElem?_eq_none (hv.len▸get_out hb)) fun h' he=>h2 h' hb he
theorem iter_self {Q:Value->Shared->Prop} {E:Value->Shared->Prop} (x:IterSt s.heap R it all wt i) (h:Q (.ref it) s):wpAny Γ.M Γ.A (pyIter (.ref it)) Q E s:=by
 cases x with
 | rng q=>exact wpAny_pyIter_rangeiter q h
 | bytes q=>exact KBw.pyIter_self q h
 | tup q _ _=>exact wpAny_pyIter_tupleiter q h
 | list _ q=>exact wpAny_pyIter_listiter q h
theorem range_size (n:Nat):Builtin.Range.rangeSize 0 n 1=(n:Int):=by
 unfold Builtin.Range.rangeSize
 rw [if_pos (by decide)]
 split
 ·rw [Int.ediv_one];omega
 ·omega
theorem range_small {n:Nat} (h:n<=LIM):Builtin.Range.small 0 n 1=true:=by
 have h:n<=1048576:=h
 have fits:∀ x:Int,-(2 ^ 62:Int) < x->x < 2 ^ 62->Builtin.Range.rangeFitsLong x=true:=fun x h1 h2=>by
  unfold Builtin.Range.rangeFitsLong
  simp only [Bool.and_eq_true,decide_eq_true_eq];omega
 unfold Builtin.Range.small
 rw [range_size,fits 0 (by omega) (by omega),fits n (by omega) (by omega),fits 1 (by omega) (by omega),fits (n + (1 - 1)) (by omega) (by omega),fits (n + (1+1)) (by omega) (by omega)]
 simp
inductive NewIt (s:Shared) (R:Reg) (all:List AV) (wt:Option Nat) (h':Heap):Prop
 | mk (o:Obj) (vs:Array Value) (e:h'=s.heap.push o) (d:o.data=.fields vs) (x:IterSt h' R s.heap.objs.size all wt 0)
theorem iter_start {v:Value} {a:AV} {k:List AV->Option Nat->Prop} {Q:Value->Shared->Prop} {E:Value->Shared->Prop} (P:Pre Γ s R st) (x:VRel s.heap R v a) (he:iterP a st.H k)
  (hQ:∀ all wt h',k all wt->NewIt s R all wt h'->Q (.ref s.heap.objs.size) { s with heap:=h' }):wpAny Γ.M Γ.A (pyIter v) Q E s:=by
 have k9:∀ o,Keeps9 s.heap R (s.heap.push o) R:=fun o=>keeps9_h fun _ _ e=>Heap.get?_push_of_some _ e
 cases a with
 | rng n =>
  obtain ⟨a,t,u,w,rfl,z,r⟩:=x.rng_v
  refine wpAny_pyIter_range r (range_small z) (hQ _ _ _ he ⟨_,_,rfl,rfl,.rng ?_⟩)
  show (s.heap.push _).get? _=some _
  rw [Heap.get?_push_size _ rfl,range_size]
  simp [rawInt]
 | bytes b =>
  obtain ⟨t,rfl,z⟩:=x.bytes_v
  exact KBw.pyIter_bytes (hQ _ _ _ he ⟨_,_,rfl,rfl,.bytes ⟨_,Heap.get?_push_size _ rfl,rfl,rfl⟩⟩)
 | tup as =>
  obtain ⟨a,vs,rfl,ht,z,r⟩:=x.tup_v
  exact wpAny_pyIter_tuple (isTuple_at ht) (hQ _ _ _ he ⟨_,_,rfl,rfl,.tup ⟨_,Heap.get?_push_size _ rfl,rfl,rfl⟩ ((k9 _).tup _ _ ht) (r.mono (k9 _))⟩)
 | ref l =>
  obtain ⟨xs,h1,hk⟩:=he
  obtain ⟨a,us,n,rfl,e,z,g,r⟩:=P.lst x h1
  exact wpAny_pyIter_list (isList g) (hQ _ _ _ hk ⟨_,_,rfl,rfl,.list e ⟨_,Heap.get?_push_size _ rfl,rfl,rfl⟩⟩)
 | _=>exact he.elim
theorem ItObj.notOwned {target:Expr} {v:Value} {Q:Unit->Shared->Prop} {E:Value->Shared->Prop} (x:ItObj s.heap it) (h:Q () s):wpAny Γ.M Γ.A (letOwnedTupleGo target (.ref it) v) Q E s:=by
 obtain ⟨o,vs,g,hd,_,hk,n,hc⟩:=x
 have hk:=hk n hc
 have key:∀ v:Value,wpAny Γ.M Γ.A (do
   let (.ref r,.ref a):=(Value.ref it,v)|return
   let o ← load r
   match o.cls,o.data with
   | .type n,.fields vs =>
    if ["enumerate","zip","dict_itemiterator","dict_reverseitemiterator","odict_iterator","itertools.zip_longest","itertools.pairwise"].contains n&&vs[0]?==some (rawInt a) then
     rule "for.unpacks-the-owned-tuple"
     updateField r 0 .none
   | _,_=>pure ():Sem Unit) Q E s:=fun v=>by
  cases v <;> try exact wpAny_pure h
  exact wpAny_bind (wpAny_load g (by rw [hc,hd];dsimp only;rw [hk,if_neg (by simp)];exact wpAny_pure h))
 unfold letOwnedTupleGo
 split
 ·exact key v
 ·exact key v
 ·exact wpAny_pure h
theorem ItObj.junk (x:ItObj s'.heap it) (P:Pre Γ s' R' st') {h0:Heap} (n:h0.get? it=none):Junk Γ R' h0 s'.heap it:=by
 obtain ⟨o,vs,g,hd,hc,_,_⟩:=x
 have f:=P.sat.free_fields g hd
 exact ⟨n,f.1,f.2,o,g,fun v=>by cases v with
  | seq _ _ q=>exact nomatch hd.symm.trans q
  | plain q=>exact nomatch hd.symm.trans q
  | rng _ q _ _=>exact hc q⟩
theorem ItObj.stays (x:ItObj h it) (he:Heap.ExtBut it h h') (fl:List Addr):Stays h fl [it] h':=by
 obtain ⟨o,vs,g,hd,_,_,_⟩:=x
 exact ⟨fun b o _ hb e=>he b o (fun q=>hb (q▸.head _)) e,fun b o' hb hnf e=>⟨o'.slots,he b o' (fun q=>hnf vs (inj_some (q▸g) e▸hd)) e⟩⟩
theorem After.turn {tk:Nat} (K:FxOk Γ.X) (P₀:Pre Γ s R st) (af:After Γ s R s' R' st') (hn:s.heap.get? it=none) (x:ItObj s'.heap it) (he:Heap.ExtBut it s'.heap h'):After Γ s R { s' with heap:=h',toks:=tk } R' st' :=
 have a1:=After.junk (ex:=[it]) K P₀.sat.keep af (junk1 (x.junk af.pre hn)) (x.stays he _)
 a1.trans (After.toks (s:={ s' with heap:=h' }) a1.pre)
theorem IterSt.after (P:Pre Γ s R st) (x:IterSt s.heap R it all wt i) (af:After Γ s R s' R' st'):IterSt s'.heap R' it all wt i:=by
 obtain ⟨o,vs,g,hd,_,_,_⟩:=x.obj
 have f:=P.sat.free_fields g hd
 exact x.mono (fun o' g'=>inj_some g g'▸af.step.same it o g f.1 f.2) (af.keeps9 P)
end
end Ab
end
section
namespace Ab
open PySem PySem.W PySem.Calls PyProof.Rows PyProof.Rows.TI
abbrev NoRel:Rl Unit Unit:=fun _ _ _ _=>True
section
variable {Γ:Cx} {s s':Shared} {R R':Reg} {st st':St} {h':Heap} {L:Nat}
structure Slot0 (X:Fx) (i:Nat) (k:NameKind):Prop where
 at':X.names[i]?=some (X.names.getD i "")
 k:X.env.scope.names.lookup (Str.ofString (X.names.getD i ""))=some k
theorem slot0 {X:Fx} {i:Nat} {k:NameKind} (h:slotK X.names X.env.scope.names i k=true):Slot0 X i k:=⟨names_at (Nat.le_of_ble_eq_true (and_l h)),isK_of (and_r h)⟩
theorem sim_setLoc {i p:Nat} {v:Value} {a:AV} (P:Pre Γ s R st) (K:FxOk Γ.X) (q:Slot0 Γ.X i .local) (r:VRel s.heap R v a) :
  SimAt Γ NoRel (assign (nmE Γ.X.names i p L) Γ.X.env v) (fun Q _=>setFr a i st.fr fun fr=>Q () ⟨fr,st.H⟩) s R:=by
 obtain ⟨m,hm,hf⟩:=P.fr.ns
 show SimAt Γ NoRel (standAt (dp L p) >>= fun _=>bindName Γ.X.env (Str.ofString (Γ.X.names.getD i "")) v) _ s R
 exact .standAt fun Q E hp=>wpP_of (wpAny_bindName (wpAny_storeName_local q.k hm (fun h' hN hs=>⟨(),_,R,(set_fr hp).2,After.setLocal P K q.at' q.k hf hN hs r,trivial⟩) (by rw [K.kind];rfl)))
theorem sim_setCel {i p:Nat} {v:Value} {a:AV} (P:Pre Γ s R st) (K:FxOk Γ.X) (FX:FnFx Γ.X) (q:Slot0 Γ.X i .cell) (r:VRel s.heap R v a) :
  SimAt Γ NoRel (assign (nmE Γ.X.names i p L) Γ.X.env v) (fun Q _=>setFr a i st.fr fun fr=>Q () ⟨fr,st.H⟩) s R:=by
 obtain ⟨c,o,ov,e3,e4,e5,e6⟩:=P.fr.cel i _ q.at' (.inl q.k)
 show SimAt Γ NoRel (standAt (dp L p) >>= fun _=>bindName Γ.X.env (Str.ofString (Γ.X.names.getD i "")) v) _ s R
 refine .standAt fun Q E hp=>wpP_of (wpAny_bindName (wpAny_storeName_cell K.kind q.k e3 ⟨o,e4,e5⟩ (fun h' hc hs=>?_)))
 obtain ⟨o',g,hd⟩:=hc
 exact ⟨(),_,R,(set_fr hp).2,After.setCell (tk:=s.toks) P K q.at' (.inl q.k) e3 (FX.cellCur _ _ q.k e3) (fun b o hb g=>(hs.2 b hb).trans g) g hd r,trivial⟩
theorem setFrs_len {is:List Nat}:∀ {as:List AV} {fr:List (Option AV)} {k:List (Option AV)->Prop},setFrs is as fr k->is.length=as.length:=by
 induction is with
 | nil=>intro as fr k h;exact (congrArg List.length h.1).symm
 | cons i r ih =>
  intro as fr k h
  cases as with
  | nil=>exact h.elim
  | cons a as=>exact congrArg (·+1) (ih (set_fr h).2)
noncomputable abbrev tgs (X:Fx) (L:Nat) (is:List (Nat×Nat)):List Expr:=is.map fun x=>nmE X.names x.1 x.2 L
theorem each_len {X:Fx} (is:List (Nat×Nat)):(assignEach (tgs X L is) X.env).length=is.length/\(assignEach (tgs X L is) X.env).findIdx? (·.1)=none:=by
 induction is with
 | nil=>exact ⟨rfl,rfl⟩
 | cons x r ih =>
  refine ⟨congrArg (·+1) ih.1,?_⟩
  show List.findIdx? _ ((false,_)::assignEach (tgs X L r) X.env)=none
  rw [List.findIdx?_cons,ih.2];rfl
theorem sim_setEach (K:FxOk Γ.X) (is:List (Nat×Nat)):∀ {vs:List Value} {as:List AV} {s:Shared} {R:Reg} {st:St},Pre Γ s R st->(is.all fun x=>slotK Γ.X.names Γ.X.env.scope.names x.1 .local)=true->VRels s.heap R vs as →
  SimAt Γ NoRel (assignInOrder ((assignEach (tgs Γ.X L is) Γ.X.env).map (·.2)) vs) (fun Q _=>setFrs (is.map (·.1)) as st.fr fun fr=>Q () ⟨fr,st.H⟩) s R:=by
 induction is with
 | nil =>
  intro vs as s R st P ha r
  refine .and fun e=>?_
  subst e
  obtain rfl:=r.inv0
  exact .ok P trivial
 | cons x is ih =>
  intro vs as s R st P ha r
  cases as with
  | nil=>exact .no
  | cons a as =>
   obtain ⟨v,us,rfl,r1,r2⟩:=r.inv
   show SimAt Γ NoRel (PySem.holding us (assign (nmE Γ.X.names x.1 x.2 L) Γ.X.env v) >>= fun _=>assignInOrder ((assignEach (tgs Γ.X L is) Γ.X.env).map (·.2)) us) (fun Q _=>setFr a x.1 st.fr fun fr=>setFrs (is.map (·.1)) as fr fun fr=>Q () ⟨fr,st.H⟩) s R
   rw [List.all_cons] at ha
   exact SimAt.bind (p:=fun Q _=>setFr a x.1 st.fr fun fr=>Q () ⟨fr,st.H⟩) (g:=fun _ st1 Q _=>setFrs (is.map (·.1)) as st1.fr fun fr=>Q () ⟨fr,st1.H⟩) (sim_setLoc P K (slot0 (and_l ha)) r1).holding fun b s1 a1 st1 R1 af1 _=>ih af1.pre (and_r ha) (r2.mono (af1.keeps9 P))
theorem sim_assign0 {t:AT0} {v:Value} {a:AV} (hh:Γ.A.handled=none) (P:Pre Γ s R st) (K:FxOk Γ.X) (hc:(∃ i p,t=.cel i p)->FnFx Γ.X) (hr:okT0 Γ.X.names Γ.X.env.scope.names t=true) (r:VRel s.heap R v a) :
  SimAt Γ NoRel (assign (toT0 Γ.X.names L t) Γ.X.env v) (fun Q _=>setT t a st.fr fun fr=>Q () ⟨fr,st.H⟩) s R:=by
 cases t with
 | loc i p=>exact sim_setLoc P K (slot0 hr) r
 | cel i p=>exact sim_setCel P K (hc ⟨i,p,rfl⟩) (slot0 hr) r
 | tup is p =>
  refine .isTup fun as e=>?_
  subst e
  obtain ⟨ta,vs,rfl,ht,_,rv⟩:=r.tup_v
  show SimAt Γ NoRel (standAt (dp L p) >>= fun _=>unpack (.ref ta) (assignEach (tgs Γ.X L is) Γ.X.env)) _ s R
  refine .standAt fun Q E hp=>?_
  unfold unpack
  have q:=each_len (L:=L) (X:=Γ.X) is
  have hl:is.length=vs.toArray.size:=by rw [List.size_toArray,rv.len,<-setFrs_len hp,List.length_map]
  rw [q.1,q.2,hl]
  refine wpP_bind (wpP_holding (wpP_of (wpAny_unpackItems_tuple hh (isTuple_at ht) fun h' hx=>?_)))
  have keep:∀ b o,s.heap.get? b=some o->h'.get? b=some o:=fun b o e=>hx b o (Nat.ne_of_lt (Heap.lt_size e)) e
  have af:=After.keepAll (tk:=s.toks) P keep
  exact wpP_mono (sim_setEach K is af.pre (and_r hr) (rv.mono (keeps9_h keep)) Q E hp) (fun _ _=>Lift.after af) fun _ _=>LiftE.after af
inductive LoopExc (Γ:Cx) (s:Shared) (R:Reg) (E:KX) (x:Value) (s':Shared):Prop
 | mk (c:Nat) (st':St) (R':Reg) (e:Addr) (he:E c st') (af:After Γ s R s' R' st') (q:x=.ref e) (t:Trc s.heap s'.heap e (CA c) (rawInt Γ.X.env.locals))
def LoopPost (Γ:Cx) (s:Shared) (R:Reg) (Q:Fl->St->Prop) (E:KX) (x:Result) (s':Shared):Prop:=match x with
 | .ok f=>Lift Γ FlRel s R Q f s'
 | .error x=>LoopExc Γ s R E x s'
structure Loop (Γ:Cx) (s:Shared) (R:Reg) (st:St):Prop where
 fn:FnFx Γ.X
 frames:Γ.A.frames=some Γ.X.chain
 hh:Γ.A.handled=none
 fx:FxOk Γ.X
 pre:Pre Γ s R st
variable {Q:Fl->St->Prop} {E:KX} {s₀:Shared} {R₀:Reg} {st₀:St}
theorem loop_raise {x:Value} (J:Loop Γ s₀ R₀ st₀) (af:After Γ s₀ R₀ s R st) (ex:LiftE Γ s R E x s') :
  wpP Γ.M Γ.A (do noteFrame x Γ.X.env;theTreesLotGoes x) (fun _ s''=>LoopPost Γ s₀ R₀ Q E (.error x) s'') (fun e s''=>LoopPost Γ s₀ R₀ Q E (.error e) s'') s':=by
 obtain ⟨c,st1,R1,he,af1,ex⟩:=ex
 exact wpP_of (wpAny_bind (note_station J.fn J.frames J.fx J.pre (af.trans af1) (ex.mono af.step.live) fun h' e hx af' tr=>wpAny_theTreesLotGoes ⟨c,st1,R1,e,he,af',hx,tr⟩))
theorem code_block_nil {prog:Program} {w:World} {A:Around} {Rr:Result->Shared->Prop} {env:Env} (h:Rr (.ok .next) s):codeP (model prog w) A (.block [] env) Rr s:=by
 refine codeP_of_tree ?_ rfl
 show wpP _ A (do return Fin.done (← (execs [] env).onRaise (fun x=>do noteFrame x env;theTreesLotGoes x))) _ _ s
 exact wpP_bind (wpP_onRaise (wpP_pure (wpP_pure h)))
theorem loop_body {c:Code} {body:List Stmt} {I:St->Prop} {pt:PT Fl} {k:Flow->Sem Fin} (J:Loop Γ s₀ R₀ st₀) (af:After Γ s₀ R₀ s R st) (hb:SimAt Γ FlRel (execs body Γ.X.env) pt s R) (hp:pt (onNext I Q) E)
  (hc:∀ s' R' st',After Γ s R s' R' st'->After Γ s₀ R₀ s' R' st'->I st'->codeP Γ.M Γ.A c (LoopPost Γ s₀ R₀ Q E) s') (k1:k .next=pure (.again c)) (k2:∀ v,k (.ret v)=pure (.done (.ret v))) (hq:c.quiet=true) :
  wpP Γ.M Γ.A (execs body Γ.X.env >>= k) (fun fin s'=>match fin with|.done f=>LoopPost Γ s₀ R₀ Q E (.ok f) s'|.again c'=>c'.quiet=true/\codeP Γ.M Γ.A c' (LoopPost Γ s₀ R₀ Q E) s')
   (fun x s'=>wpP Γ.M Γ.A (do noteFrame x Γ.X.env;theTreesLotGoes x) (fun _ s''=>LoopPost Γ s₀ R₀ Q E (.error x) s'') (fun e s''=>LoopPost Γ s₀ R₀ Q E (.error e) s'') s') s:=by
 refine wpP_bind (wpP_mono (hb _ _ hp) ?_ fun x s3 ex=>loop_raise J af ex)
 rintro f s3 ⟨fl,st3,R3,hq',af3,rl⟩
 cases rl with
 | next=>rw [k1];exact wpP_pure ⟨hq,hc _ _ _ af3 (af.trans af3) hq'⟩
 | ret r=>rw [k2];exact wpP_pure (show Lift Γ FlRel s₀ R₀ Q _ s3 from ⟨_,st3,R3,hq',af.trans af3,.ret r⟩)
theorem code_for {tgt:AT0} {body:List Stmt} {it:Addr} {fb:St->PT Fl} {all:List AV} {wt:Option Nat} {I:Nat->St->Prop} (J:Loop Γ s₀ R₀ st₀) (hn:s₀.heap.get? it=none) (ht:okT0 Γ.X.names Γ.X.env.scope.names tgt=true)
  (hbody:∀ s R st,Pre Γ s R st->SimAt Γ FlRel (execs body Γ.X.env) (fb st) s R)
  (step:∀ n v st,all[n]?=some v->I n st->stands wt all st.H/\setT tgt v st.fr fun fr=>fb ⟨fr,st.H⟩ (onNext (I (n+1)) Q) E) (fin:∀ st,I all.length st->stands wt all st.H/\Q .next st) :
  ∀ (m i:Nat) (s:Shared) (R:Reg) (st:St),i + m=all.length->IterSt s.heap R it all wt i->After Γ s₀ R₀ s R st->I i st →
   codeP Γ.M Γ.A (.forLoop (toT0 Γ.X.names L tgt) (.ref it) body [] Γ.X.env) (LoopPost Γ s₀ R₀ Q E) s:=by
 intro m
 induction m with
 | zero =>
  intro i s R st hi x af hI
  obtain rfl:i=all.length:=hi
  have f:=fin st hI
  refine codeP_of_tree ?_ rfl
  show wpP _ Γ.A ((forTurn (toT0 Γ.X.names L tgt) (.ref it) body [] Γ.X.env).onRaise (fun x=>do noteFrame x Γ.X.env;theTreesLotGoes x)) _ _ s
  refine wpP_onRaise ?_
  unfold forTurn
  refine wpP_bind (wpP_standAt (wpP_bind (wpP_onRaise (wpP_of (iter_next J.hh af.pre x f.1 (Nat.le_refl _) (fun a v h' tk e=>?_) fun h' _ he=>?_)))))
  ·exact absurd (List.getElem?_eq_some_iff.mp e).1 (Nat.lt_irrefl _)
  ·exact wpP_pure ⟨rfl,code_block_nil (show Lift Γ FlRel s₀ R₀ Q _ _ from ⟨.next,st,R,f.2,After.turn (tk:=s.toks) J.fx J.pre af hn x.obj he,.next⟩)⟩
 | succ m ih =>
  intro i s R st hi x af hI
  have hlt:i < all.length:=hi▸Nat.lt_add_of_pos_right (Nat.succ_pos m)
  have f:=step i _ st (List.getElem?_eq_getElem hlt) hI
  refine codeP_of_tree ?_ rfl
  show wpP _ Γ.A ((forTurn (toT0 Γ.X.names L tgt) (.ref it) body [] Γ.X.env).onRaise (fun x=>do noteFrame x Γ.X.env;theTreesLotGoes x)) _ _ s
  refine wpP_onRaise ?_
  unfold forTurn
  refine wpP_bind (wpP_standAt (wpP_bind (wpP_onRaise (wpP_of (iter_next J.hh af.pre x f.1 (Nat.le_of_lt hlt) (fun a v h' tk e rv he x'=>?_) fun h' e _=>?_)))))
  case refine_2=>exact absurd (get_out e) (Nat.not_le.mpr hlt)
  obtain rfl:=inj_some (List.getElem?_eq_getElem hlt) e
  have af1:After Γ s₀ R₀ { s with heap:=h',toks:=tk } R st:=After.turn J.fx J.pre af hn x.obj he
  refine wpP_bind (wpP_of (x'.obj.notOwned (s:={ s with heap:=h',toks:=tk }) ?_))
  refine wpP_bind (wpP_mono (sim_assign0 J.hh af1.pre J.fx (fun _=>J.fn) ht (rv.mono (x.obj.keeps9 he)) (fun _ st'=>fb st' (onNext (I (i+1)) Q) E) (fun _ _=>False) f.2) ?_ fun _ _ x=>x.casesOn fun _ _ _ h=>h.elim)
  rintro u s2 ⟨_,st2,R2,hq,af2,_⟩
  have x2:=x'.after (s:={ s with heap:=h',toks:=tk }) af1.pre af2
  refine loop_body (c:=.forLoop (toT0 Γ.X.names L tgt) (.ref it) body [] Γ.X.env) J (af1.trans af2) (hbody s2 R2 _ af2.pre) hq (fun s3 R3 st3 a3 a03 hI3=>ih (i+1) s3 R3 st3 (by rw [Nat.succ_add];exact hi) (x2.after af2.pre a3) a03 hI3) rfl (fun v=>rfl) rfl
theorem code_while {test:Expr} {body:List Stmt} {fc:St->PT Bool} {fb:St->PT Fl} {I:Nat->St->Prop} (J:Loop Γ s₀ R₀ st₀)
  (hcond:∀ s R st,Pre Γ s R st->SimAt Γ BoolRel (isTrue test Γ.X.env (eval test Γ.X.env)) (fc st) s R) (hbody:∀ s R st,Pre Γ s R st->SimAt Γ FlRel (execs body Γ.X.env) (fb st) s R)
  (step:∀ n st,I n st->fc st (fun t st=>ifb t (fb st (onNext (fun st=>∃ m,m < n/\I m st) Q) E) (Q .next st)) E) (n:Nat) :
  ∀ (s:Shared) (R:Reg) (st:St),After Γ s₀ R₀ s R st->I n st->codeP Γ.M Γ.A (.whileLoop test body [] Γ.X.env) (LoopPost Γ s₀ R₀ Q E) s:=by
 induction n using Nat.strongRecOn with
 | ind n ih =>
  intro s R st af hI
  refine codeP_of_tree ?_ rfl
  show wpP _ Γ.A ((whileTurn test body [] Γ.X.env).onRaise (fun x=>do noteFrame x Γ.X.env;theTreesLotGoes x)) _ _ s
  refine wpP_onRaise ?_
  unfold whileTurn
  refine wpP_bind (wpP_mono (hcond s R st af.pre _ _ (step n st hI)) ?_ fun x s3 ex=>loop_raise J af ex)
  rintro b s1 ⟨b',st1,R1,hq,af1,hb⟩
  obtain rfl:b=b':=hb
  have afc:=af.trans af1
  cases b with
  | false=>exact wpP_bind (wpP_pure (wpP_pure (show Lift Γ FlRel s₀ R₀ Q _ s1 from ⟨.next,st1,R1,hq,afc,.next⟩)))
  | true=>exact loop_body (c:=.whileLoop test body [] Γ.X.env) J afc (hbody s1 R1 st1 af1.pre) hq (fun s3 R3 st3 a3 a03 hI3=>hI3.elim fun m q=>ih m q.1 s3 R3 st3 a03 q.2) rfl (fun v=>rfl) rfl
theorem sim_runOwn {c:Code} (J:Loop Γ s₀ R₀ st₀) (h:codeP Γ.M Γ.A c (LoopPost Γ s₀ R₀ Q E) s):wpP Γ.M Γ.A (runOwn c Γ.X.env) (Lift Γ FlRel s₀ R₀ Q) (LiftE Γ s₀ R₀ E) s:=by
 unfold runOwn
 refine wpP_onRaise (wpP_run (codeP_mono (A:=Γ.A) h fun x s' hx=>?_))
 rcases x with x|f
 ·obtain ⟨c,st',R',e,he,af,rfl,tr⟩:=hx
  obtain ⟨T,oe,vs,oT,ts,n,nT,ne,g,cc,d,x1,gT,dT,x3⟩:=id tr
  refine wpP_of (wpAny_bind (wpAny_field g d x1 ?_))
  rw [if_neg (by simp)]
  exact flight_station (fl:=Γ.X.env.frame) J.fx J.pre af tr fun h' af2 tr2=>⟨c,st',R',he,af2,tr2.exc (.inr (by rw [J.fn.frame];exact ⟨_,rfl,rfl⟩))⟩
 ·exact hx
end
end Ab
end
section
namespace Ab
open PySem PySem.W PySem.Calls PyProof.Rows PyProof.Rows.TI
section
variable {outer:List (Option AV)} {caps:List (Nat×Nat)} {j j' i:Nat}
noncomputable abbrev capF (outer:List (Option AV)) (fr:List (Option AV)) (c:Nat×Nat):List (Option AV):=fr.set c.1 (outer[c.2]?.join)
theorem cap_none:∀ {fr:List (Option AV)},caps.filter (·.1==j)=[]->(caps.foldl (capF outer) fr)[j]?=fr[j]?:=by
 induction caps with
 | nil=>exact fun _=>rfl
 | cons c r ih =>
  intro fr h
  rw [List.filter_cons] at h
  by_cases hc:c.1==j
  ·rw [if_pos hc] at h;cases h
  ·rw [if_neg hc] at h
   rw [List.foldl_cons,ih h,List.getElem?_set_ne fun q=>hc (beq_iff_eq.mpr q)]
theorem cap_len:∀ {fr:List (Option AV)},(caps.foldl (capF outer) fr).length=fr.length:=by
 induction caps with
 | nil=>exact rfl
 | cons c r ih=>intro fr;rw [List.foldl_cons,ih,List.length_set]
theorem cap_one:∀ {fr:List (Option AV)},caps.filter (·.1==j)=[(j',i)]->j < fr.length->(caps.foldl (capF outer) fr)[j]?=some (outer[i]?.join):=by
 induction caps with
 | nil=>exact fun h=>nomatch h
 | cons c r ih =>
  intro fr h hj
  rw [List.filter_cons] at h
  rw [List.foldl_cons]
  by_cases hc:c.1==j
  ·rw [if_pos hc] at h
   have h:=List.cons.inj h
   rw [cap_none h.2,<-beq_iff_eq.mp hc,List.getElem?_set_self ((beq_iff_eq.mp hc).symm▸hj),h.1]
  ·rw [if_neg hc] at h
   exact ih h (by rw [List.length_set];exact hj)
end
noncomputable def closeOf (cells:List (Str×Addr)):List (Str×NameKind)->List (Str×Addr)->List (Str×Addr)
 | [],acc=>acc
 | p::r,acc=>if p.2==.free then Option.casesOn (cells.lookup p.1) (closeOf cells r acc) fun c=>closeOf cells r ((p.1,c)::acc) else closeOf cells r acc
section
variable {cells:List (Str×Addr)} {n:Str} {names:List (Str×NameKind)}
theorem close_free {p:Str×NameKind} {r:List (Str×NameKind)} {acc:List (Str×Addr)} {c:Addr} (hk:p.2=.free) (hc:cells.lookup p.1=some c):closeOf cells (p::r) acc=closeOf cells r ((p.1,c)::acc):=by
 rw [closeOf,if_pos (beq_iff_eq.mpr hk),hc]
theorem close_gone {p:Str×NameKind} {r:List (Str×NameKind)} {acc:List (Str×Addr)} (hk:p.2=.free) (hc:cells.lookup p.1=none):closeOf cells (p::r) acc=closeOf cells r acc:=by
 rw [closeOf,if_pos (beq_iff_eq.mpr hk),hc]
theorem close_skip {p:Str×NameKind} {r:List (Str×NameKind)} {acc:List (Str×Addr)} (hk:p.2≠.free):closeOf cells (p::r) acc=closeOf cells r acc:=by
 rw [closeOf,if_neg fun q=>hk (beq_iff_eq.mp q)]
theorem closureFor_go {env:Env} (names:List (Str×NameKind)):∀ (acc:List (Str×Addr)),(∀ n,(n,NameKind.free)∈names->(env.cells.lookup n).isSome) →
  (forIn names acc fun x cs=>(match x with|(name,kind)=>if kind==.free then (do let a ← cellOf env name;pure (ForInStep.yield ((name,a)::cs))) else pure (ForInStep.yield cs):Sem (ForInStep (List (Str×Addr)))))=pure (closeOf env.cells names acc):=by
 induction names with
 | nil=>intro acc _;rw [List.forIn_nil];rfl
 | cons p r ih =>
  intro acc h
  obtain ⟨n,k⟩:=p
  rw [List.forIn_cons]
  have hr:=fun m hm=>h m (.tail _ hm)
  by_cases hk:k=.free
  ·subst hk
   obtain ⟨c,hc⟩:=Option.isSome_iff_exists.mp (h n (.head _))
   rw [close_free (p:=(n,.free)) rfl hc,<-ih _ hr]
   have e:cellOf env n=pure c:=by unfold cellOf;rw [hc]
   simp only [e,beq_self_eq_true,if_true]
   rfl
  ·rw [close_skip (p:=(n,k)) hk,<-ih _ hr]
   simp only [beq_eq_false_iff_ne.mpr hk,Bool.false_eq_true,if_false]
   rfl
theorem closureFor_eq {scope:Scope} {env:Env} (h:∀ n,(n,NameKind.free)∈scope.names->(env.cells.lookup n).isSome):closureFor scope env=pure (closeOf env.cells scope.names []):=by
 unfold closureFor
 exact congrArg (fun t:Sem (List (Str×Addr))=>t >>= fun r=>pure r) (closureFor_go (env:=env) scope.names [] h)
theorem look_cons {α:Type} {m:Str} {v c:α} {r:List (Str×α)} (h:((m,v)::r).lookup n=some c):(n=m/\v=c)\/r.lookup n=some c:=by
 by_cases hq:n=m
 ·subst hq;rw [look_hit] at h;exact .inl ⟨rfl,Option.some.inj h⟩
 ·rw [look_miss hq] at h;exact .inr h
theorem close_sub {c:Addr}:∀ {acc:List (Str×Addr)},(closeOf cells names acc).lookup n=some c->acc.lookup n=some c\/cells.lookup n=some c:=by
 induction names with
 | nil=>exact fun h=>.inl h
 | cons p r ih =>
  intro acc h
  by_cases hk:p.2=.free
  ·cases hd:cells.lookup p.1 with
   | none=>rw [close_gone hk hd] at h;exact ih h
   | some d =>
    rw [close_free hk hd] at h
    exact (ih h).elim (fun h=>(look_cons h).elim (fun q=>.inr (by rw [q.1,hd,q.2])) .inl) .inr
  ·rw [close_skip hk] at h;exact ih h
theorem close_has:∀ {acc:List (Str×Addr)},((n,NameKind.free)∈names/\(cells.lookup n).isSome)\/(acc.lookup n).isSome->((closeOf cells names acc).lookup n).isSome:=by
 induction names with
 | nil=>exact fun h=>h.elim (fun h=>nomatch h.1) id
 | cons p r ih =>
  intro acc h
  obtain ⟨m,k⟩:=p
  have step:(n,NameKind.free)∈(m,k)::r->(n=m/\k=.free)\/(n,NameKind.free)∈r:=fun h=>(List.mem_cons.mp h).imp (fun e=>by cases e;exact ⟨rfl,rfl⟩) id
  by_cases hk:k=.free
  ·cases hd:cells.lookup m with
   | none =>
    rw [close_gone (p:=(m,k)) hk hd]
    exact ih (h.imp (fun h=>⟨(step h.1).elim (fun q=>by rw [q.1,hd] at h;cases h.2) id,h.2⟩) id)
   | some d =>
    rw [close_free (p:=(m,k)) hk hd]
    refine ih ?_
    by_cases hq:n=m
    ·subst hq;rw [look_hit];exact .inr rfl
    ·rw [look_miss hq];exact h.imp (fun h=>⟨(step h.1).elim (fun q=>absurd q.1 hq) id,h.2⟩) id
  ·rw [close_skip (p:=(m,k)) hk]
   exact ih (h.imp (fun h=>⟨(step h.1).elim (fun q=>absurd q.2 hk) id,h.2⟩) id)
end
noncomputable abbrev cScope (s:List (String×NameKind)):Scope:=⟨.function,scopeOf s,false,false,[]⟩
def compFx (scope:Scope) (cl:List (Str×Addr)) (D:Addr) (ns:List String) (X:Fx):Fx where
 env:=compEnvC scope cl D X.env
 names:=ns
 cur:=[D]
 fs:=X.own
 chain:=X.chain
structure CompOk (X:Fx) (ns:List String) (s:List (String×NameKind)) (caps:List (Nat×Nat)) (tgt:AT0):Prop where
 nodup:ns.Nodup
 nms:okN ns=true
 noCell:∀ x∈scopeOf s,x.2≠.cell
 caps:capsOk X.names X.env.scope.names ns (scopeOf s) caps=true
 keys:((scopeOf s).map (·.1)).Nodup
 free:∀ p∈scopeOf s,p.2=.free->∃ x∈ns,Str.ofString x=p.1
 noCel:¬ ∃ i p,tgt=.cel i p
 tgt:okT0 ns (compSc X.env.scope.names (scopeOf s)) tgt=true
theorem compOk_of {X:Fx} {ns:List String} {s:List (String×NameKind)} {caps:List (Nat×Nat)} {tgt:AT0} (h:okC X.names X.env.scope.names ns (scopeOf s) caps tgt=true):CompOk X ns s caps tgt:=by
 have h1:=and_l h
 have h2:=and_l h1
 have h3:=and_l h2
 have h4:=and_l h3
 have h5:=and_l h4
 have h6:=and_l h5
 refine ⟨of_decide_eq_true (and_l h6),and_r h6,fun x hx q=>?_,and_r h4,of_decide_eq_true (and_r h3),fun p hp hf=>?_,?_,and_r h⟩
 ·have:=List.all_eq_true.mp (and_r h5) x hx
  rw [q] at this;cases this
 ·have:=List.all_eq_true.mp (and_r h2) p hp
  rw [hf] at this
  obtain ⟨x,hx,e⟩:=List.any_eq_true.mp this
  exact ⟨x,hx,beq_iff_eq.mp e⟩
 ·rintro ⟨i,p,rfl⟩
  exact nomatch and_r h1
inductive CapAt (X:Fx) (inner:Sc) (caps:List (Nat×Nat)) (j:Nat) (x:String):Prop
 | no (e:caps.filter (·.1==j)=[]) (k:inner.lookup (Str.ofString x)=some .local)
 | one (j' i:Nat) (e:caps.filter (·.1==j)=[(j',i)]) (k:inner.lookup (Str.ofString x)=some .free) (h:slotC X.names X.env.scope.names i=true) (q:Str.ofString (X.names.getD i "")=Str.ofString x)
section
variable {Γ:Cx} {s s':Shared} {R R':Reg} {st st':St} {h':Heap} {L:Nat} {X:Fx} {ns:List String} {sc:List (String×NameKind)} {caps:List (Nat×Nat)} {tgt:AT0}
theorem getD_of {N:List String} {j:Nat} {x:String} (h:N[j]?=some x):N.getD j ""=x:=by rw [List.getD_eq_getElem?_getD,h];rfl
theorem cap_at (O:CompOk X ns sc caps tgt) {j:Nat} {x:String} (hj:ns[j]?=some x):CapAt X (scopeOf sc) caps j x:=by
 have h:=List.all_eq_true.mp O.caps j (List.mem_range.mpr (List.getElem?_eq_some_iff.mp hj).1)
 rw [getD_of hj] at h
 cases e:caps.filter (·.1==j) with
 | nil=>rw [e] at h;exact .no e (isK_of h)
 | cons c r =>
  cases r with
  | nil=>obtain ⟨j',i⟩:=c;rw [e] at h;exact .one j' i e (isK_of (and_l (and_l h))) (and_r (and_l h)) (beq_iff_eq.mp (and_r h))
  | cons d r=>rw [e] at h;exact nomatch h
theorem slotc_at {i:Nat} (h:slotC X.names X.env.scope.names i=true):X.names[i]?=some (X.names.getD i "")/\isCellK (X.env.scope.names.lookup (Str.ofString (X.names.getD i ""))) :=
 ⟨names_at (Nat.le_of_ble_eq_true (and_l h)),((Bool.or_eq_true _ _).mp (and_r h)).imp isK_of isK_of⟩
theorem compSc_lookup {sc inner:Sc} {x:Str}:(compSc sc inner).lookup x=(inner.lookup x).map fun k=>if k==.free&&sc.lookup x==some .cell then .cell else k:=by
 induction inner with
 | nil=>rfl
 | cons p r ih =>
  obtain ⟨n,k⟩:=p
  show List.lookup x ((if (k==NameKind.free&&sc.lookup n==some NameKind.cell)=true then (n,NameKind.cell) else (n,k))::compSc sc r)=_
  by_cases hx:x=n
  ·subst hx
   rw [look_hit,Option.map_some]
   by_cases hq:(k==NameKind.free&&sc.lookup x==some NameKind.cell)=true
   ·rw [if_pos hq,if_pos hq,look_hit]
   ·rw [if_neg hq,if_neg hq,look_hit]
  ·rw [look_miss hx,<-ih]
   by_cases hq:(k==NameKind.free&&sc.lookup n==some NameKind.cell)=true
   ·rw [if_pos hq,look_miss hx]
   ·rw [if_neg hq,look_miss hx]
theorem relabel_names {scope:Scope} {env:Env} (hk:env.scope.kind=.function):(relabel scope env).names=compSc env.scope.names scope.names:=by
 unfold relabel compSc
 simp only
 congr 1
 funext p
 simp only [hk,beq_self_eq_true,Bool.and_true,Env.kindOf]
inductive CellOf (Γ:Cx) (h:Heap) (n:Str):Prop
 | mk (c:Addr) (i:Nat) (e:Γ.X.env.cells.lookup n=some c)
theorem cell_of_free (P:Pre Γ s R st) (O:CompOk Γ.X ns sc caps tgt) {n:Str} (hn:(n,NameKind.free)∈scopeOf sc):(Γ.X.env.cells.lookup n).isSome:=by
 obtain ⟨x,hx,e⟩:=O.free _ hn rfl
 obtain ⟨j,hj⟩:=List.getElem?_of_mem hx
 have e:Str.ofString x=n:=e
 cases cap_at O hj with
 | no _ h2=>rw [e,lookup_of_mem O.keys hn] at h2;cases h2
 | one j' i _ _ h3 q =>
  have z:=slotc_at h3
  obtain ⟨c,o,ov,hc,_,_,_⟩:=P.fr.cel i _ z.1 z.2
  rw [<-e,<-q,hc];rfl
noncomputable abbrev compX (Γ:Cx) (D:Addr) (ns:List String) (sc:List (String×NameKind)):Fx:=compFx (cScope sc) (closeOf Γ.X.env.cells (scopeOf sc) []) D ns Γ.X
theorem compX_names {D:Addr} (K:FxOk Γ.X):(compX Γ D ns sc).env.scope.names=compSc Γ.X.env.scope.names (scopeOf sc):=relabel_names (scope:=cScope sc) K.kind
theorem comp_sub {n:Str} {c:Addr} (e:(closeOf Γ.X.env.cells (scopeOf sc) []).lookup n=some c):Γ.X.env.cells.lookup n=some c:=(close_sub e).elim nofun id
theorem own_old (P:Pre Γ s R st):∀ b∈Γ.X.own,b≠s.heap.objs.size:=fun b hb q=>(P.sat.frs b hb).casesOn fun o g _=>some_ne (get_size_none _) (q▸g)
theorem compX_ok (P:Pre Γ s R st) (K:FxOk Γ.X) (O:CompOk Γ.X ns sc caps tgt):FxOk (compX Γ s.heap.objs.size ns sc) where
 kind:=rfl
 globals:=K.globals
 builtins:=K.builtins
 nodup:=O.nodup
 loc:=.head _
 cells x c e:=List.mem_append_right _ (K.cells x c (comp_sub e))
 cellNe x c e:=own_old P c (K.cells x c (comp_sub e))
 cellInj x y c e1 e2:=K.cellInj x y c (comp_sub e1) (comp_sub e2)
 chainIn env he L hL:=List.mem_append_right _ (K.chainIn env he L hL)
theorem Pre.comp (P:Pre Γ s R st) (K:FxOk Γ.X) (O:CompOk Γ.X ns sc caps tgt) (hN:h'.Ns s.heap.objs.size fun x=>([]:List (Str×Value)).reverse.lookup x)
  (keep:∀ b o,s.heap.get? b=some o->h'.get? b=some o):Pre ⟨Γ.G,Γ.A,compX Γ s.heap.objs.size ns sc⟩ { s with heap:=h' } R ⟨capture caps st.fr ns.length,st.H⟩:=by
 have k9:Keeps9 s.heap R h' R:=keeps9_h keep
 have S1:=P.sat.keepAll keep
 have look {x:Str}:(compX Γ s.heap.objs.size ns sc).env.scope.names.lookup x=((scopeOf sc).lookup x).map fun k=>if k==.free&&Γ.X.env.scope.names.lookup x==some .cell then .cell else k:=by rw [compX_names K,compSc_lookup]
 refine ⟨P.gens,⟨S1.keep,S1.newR,fun b hb=>?_,?_,S1.inj,S1.len,S1.objs,fun b hb=>?_⟩,⟨?_,⟨_,hN,fun i x v e1 e2 e3=>?_⟩,fun i x e1 e2=>?_⟩,P.ff.of_keeps fun b o e _=>⟨o,keep b o e,rfl⟩⟩
 ·exact (List.mem_cons.mp hb).elim (fun q=>by rw [q];exact none_B P.sat (get_size_none _)) (P.sat.newC b)
 ·exact (List.perm_middle.nodup_iff).mpr (List.nodup_cons.mpr ⟨P.sat.newAt (get_size_none _),P.sat.nodup⟩)
 ·exact (List.mem_cons.mp hb).elim (fun q=>by rw [q];exact ns_owned hN) (S1.frs b)
 ·exact cap_len.trans List.length_replicate
 ·exfalso
  rw [look] at e3
  cases cap_at O e1 with
  | no h1 _ =>
   have e2:(caps.foldl (capF st.fr) (List.replicate ns.length none))[i]?=some (some v):=e2
   rw [cap_none h1,List.getElem?_replicate] at e2
   split at e2 <;> cases e2
  | one j' k h1 h2 _ _ =>
   rw [h2,Option.map_some] at e3
   have e3:=Option.some.inj e3
   split at e3 <;> cases e3
 ·have e2:isCellK ((compX Γ s.heap.objs.size ns sc).env.scope.names.lookup (Str.ofString x)):=e2
  rw [look] at e2
  have e1:ns[i]?=some x:=e1
  cases cap_at O e1 with
  | no _ h2 =>
   rw [h2] at e2
   exact e2.elim nofun nofun
  | one j' k h1 h2 h3 q =>
   have z:=slotc_at h3
   obtain ⟨c,o,ov,hc,g,hd,hv⟩:=P.fr.cel k _ z.1 z.2
   obtain ⟨c',hc'⟩:=Option.isSome_iff_exists.mp (close_has (cells:=Γ.X.env.cells) (acc:=[]) (.inl ⟨mem_of_lookup h2,by rw [<-q,hc];rfl⟩))
   obtain rfl:c=c':=inj_some hc (q▸comp_sub hc')
   refine ⟨c,o,ov,hc',keep _ _ g,hd,fun a ha=>?_⟩
   have ha:(caps.foldl (capF st.fr) (List.replicate ns.length none))[i]?=some (some a):=ha
   rw [cap_one h1 (by rw [List.length_replicate];exact (List.getElem?_eq_some_iff.mp e1).1)] at ha
   exact (hv a (Option.join_eq_some_iff.mp (Option.some.inj ha))).elim fun v e=>⟨v,e.1,e.2.mono k9⟩
end
end Ab
end
section
namespace Ab
open PySem PySem.W PySem.Calls PyProof.Rows PyProof.Rows.TI
section
variable {prog:Program} {w:World} {A:Around} {s:Shared}
def CompPost (M:Model) (A:Around) (E:Value->Shared->Prop) (use:Option (Value->Sem Unit)) (Q:Value->Shared->Prop) (acc:Value) (D:Addr) (r:Result) (s':Shared):Prop :=
 match r,use with
 | .ok _,none=>∃ m,s'.heap.Ns D m/\∀ h',Heap.SameBut D s'.heap h'->Q acc { s' with heap:=h' }
 | .ok _,some u=>wpP M A (u acc) (fun _ s''=>∃ m,s''.heap.Ns D m/\∀ h',Heap.SameBut D s''.heap h'->Q .none { s'' with heap:=h' }) E s'
 | .error _,_=>False
theorem wpP_comprehension {M:Model} {e:Expr} {scope:Scope} {env:Env} {pos:Pos} {newAcc first:Sem Value} {g:Comprehension} {gs:List Comprehension} {cl:List (Str×Addr)} {use:Option (Value->Sem Unit)}
  {Q:Value->Shared->Prop} {E:Value->Shared->Prop} (hcl:clausesOf e=g::gs) (hs:∀ x,foldedSetIterable g.iter env x=pure x) (hclos:closureFor scope env=pure cl)
  (hkind:scope.kind=.function) (hnames:∀ x∈scope.names,x.2=.local->scope.names.lookup x.1=some .local)
  (h:wpP M A first (fun x s₁=>wpP M A (pyIter x) (fun it s₂=>wpP M A newAcc (fun acc s₃ =>
   wpP M A (newFunctionEnv scope env.globals cl [] env.qual none .none (some env)) (fun cenv s₄ =>
    codeP M A (.compStart e 0 it acc { cenv with scope:=relabel scope env }) (CompPost M A E use Q acc cenv.locals) s₄) E s₃) E s₂) E s₁) E s) :
  wpP M A (comprehension e scope env pos newAcc false first use) Q E s:=by
 unfold comprehension
 rw [hclos,hcl]
 refine wpP_bind (wpP_mono h (fun x s₁ h₁=>wpP_bind (wpP_standAt (wpP_bind ?_))) fun _ _ h'=>h')
 rw [hs x]
 refine wpP_pure (wpP_bind (wpP_holding (wpP_mono h₁ (fun it s₂ h₂=>?_) fun _ _ h'=>h')))
 have key:∀ (t:PUnit->Sem Value),wpP M A (t ()) Q E s₂->wpP M A (if use.isSome=true then (standAt e.pos >>= t) else t ()) Q E s₂:=fun t ht=>by
  split
  ·exact wpP_bind (wpP_standAt ht)
  ·exact ht
 refine key _ ?_
 refine wpP_bind (wpP_mono h₂ (fun acc s₃ h₃=>wpP_bind (wpP_pure (wpP_bind (wpP_mono h₃ (fun cenv s₄ h₄=>?_) fun _ _ h'=>h')))) fun _ _ h'=>h')
 dsimp only
 have hv:∀ x∈(scope.names.filter fun x=>(x.2==.local || x.2==.cell)&&x.1 != (".0":Str)).reverse,x.2=.local →
   Env.kindOf { cenv with scope:=relabel scope env } x.1=some .local:=fun x hx hl=>lookup_relabel_local (hnames x (List.mem_filter.mp (List.mem_reverse.mp hx)).1 hl)
 have hv':∀ x∈(scope.names.filter fun x=>(x.2==.local || x.2==.cell)&&x.1 != (".0":Str)).reverse.drop 1++(scope.names.filter fun x=>(x.2==.local || x.2==.cell)&&x.1 != (".0":Str)).reverse.take 1,
   x.2=.local->Env.kindOf { cenv with scope:=relabel scope env } x.1=some .local:=fun x hx hl=>(List.mem_append.mp hx).elim (fun h1=>hv x (List.mem_of_mem_drop h1) hl) fun h1=>hv x (List.mem_of_mem_take h1) hl
 refine wpP_holding (wpP_bind (wpP_attempt (wpP_holding (wpP_run (codeP_mono (A:=A) h₄ fun r s' hr=>?_)))))
 cases r with
 | ok f =>
  cases use with
  | none =>
   obtain ⟨m,hn,hr⟩:=hr
   exact wpP_bind (wpP_holding (wpP_of (wpAny_comp_letGo (cenv:={ cenv with scope:=relabel scope env }) hkind _ s' m hv hn fun h' m' _ hs'=>wpP_pure (hr h' hs'))))
  | some u =>
   refine wpP_bind (wpP_of (wpAny_rule (wpP_bind (wpP_holding (wpP_mono hr (fun _ s'' hr'=>?_) fun _ _ h'=>h')))))
   obtain ⟨m,hn,hr'⟩:=hr'
   exact wpP_bind (wpP_of (wpAny_comp_letGo (cenv:={ cenv with scope:=relabel scope env }) hkind _ s'' m hv' hn fun h' m' _ hs'=>wpP_pure (hr' h' hs')))
 | error x=>cases use <;> exact hr.elim
theorem codeP_compStart {elt target iter:Expr} {ifs:List Expr} {rest:List Comprehension} {scope:Scope} {pos:Pos} {it acc:Value} {env:Env} {Rr:Result->Shared->Prop}
  (h0:codeP (model prog w) A (.compLoop (.ListComp elt (⟨target,iter,ifs,0⟩::rest) scope pos) 0 it acc env) Rr s)
  (h:∀ {Q:Value->Shared->Prop} {E:Value->Shared->Prop},Q it s->wpAny (model prog w) A (pyIter it) Q E s) :
  codeP (model prog w) A (.compStart (.ListComp elt (⟨target,iter,ifs,0⟩::rest) scope pos) 0 it acc env) Rr s:=by
 refine codeP_of_tree ?_ rfl
 show wpP _ A ((compStart (.ListComp elt (⟨target,iter,ifs,0⟩::rest) scope pos) 0 it acc env).onRaise (fun x=>do noteFrame x env;standAt theWindowsPlace)) _ _ s
 refine wpP_onRaise ?_
 unfold compStart
 show wpP _ A (ask >>= _) _ _ s
 refine wpP_bind (wpP_of (wpAny_askSetting ?_))
 split
 ·first
  | exact wpP_bind (wpP_pure (wpP_pure (And.intro rfl h0)))
  | exact wpP_pure (And.intro rfl h0)
 ·refine wpP_bind (wpP_of (wpAny_rule ?_))
  show wpP _ A (standAt iter.pos >>= _) _ _ s
  exact wpP_bind (wpP_standAt (wpP_bind (wpP_of (h (wpP_pure (And.intro rfl h0))))))
abbrev testsOf (ifs:List Expr) (env:Env):Sem Bool:=forIn ifs true fun c r=>if r=true then do let ok ← isTrue c env (eval c env);pure (ForInStep.yield ok) else pure (ForInStep.yield r)
theorem compTurn_eq (elt target iter:Expr) (ifs:List Expr) (scope:Scope) (pos:Pos) (it acc:Value) (env:Env) :
  compTurn (.ListComp elt [⟨target,iter,ifs,0⟩] scope pos) 0 it acc env=(standAt iter.pos >>= fun _=>pyNext it >>= fun r=>match r with
   | none=>pure (.done .next)
   | some v=>letOwnedTupleGo target it v >>= fun _=>assign target env v >>= fun _=>testsOf ifs env >>= fun ok =>
     if ok=true then (eval elt env >>= fun x=>call (.builtin "list.append") [acc,x] >>= fun _=>pure ()) >>= fun _=>again (.compLoop (.ListComp elt [⟨target,iter,ifs,0⟩] scope pos) 0 it acc env)
     else again (.compLoop (.ListComp elt [⟨target,iter,ifs,0⟩] scope pos) 0 it acc env)):=by rfl
end
section
variable {Γ:Cx} {s s₀ s':Shared} {R R₀ R':Reg} {st st₀ st':St} {h':Heap} {L n:Nat} {C:Call} {ns:List String} {sc:List (String×NameKind)} {caps:List (Nat×Nat)} {tgt:AT0} {elt it cond:AE} {all:List AV} {wt:Option Nat}
theorem sim_tests (h:ST L n C cond) (O:Ok Γ n C) (P:Pre Γ s R st) (hx:(isAbs cond || okE L cond Γ.X.names Γ.X.env.scope.names)=true) :
  SimAt Γ BoolRel (testsOf (optE cond (toE L cond Γ.X.names)).toList Γ.X.env) (fun Q E=>vE T C cond st (fun c st=>compK cond c (Q true st) (Q false st)) E) s R:=by
 cases ha:isAbs cond with
 | true =>
  obtain rfl:=isAbs_eq ha
  exact .ok P rfl
 | false =>
  rw [ha] at hx
  unfold optE compK testsOf
  rw [ha]
  show SimAt Γ BoolRel (forIn [toE L cond Γ.X.names] true _) (fun Q E=>vE T C cond st (fun c st=>c.isBool fun b=>ifb b (Q true st) (Q false st)) E) s R
  rw [List.forIn_cons,if_pos rfl]
  have e1:∀ Q:Bool->St->Prop,(fun c st=>c.isBool fun b=>ifb b (Q true st) (Q false st):KV)=fun c st=>c.isBool fun b=>Q b st:=fun Q=>funext fun c=>funext fun st=>by
   cases c <;> try rfl
   rename_i b
   cases b <;> rfl
  intro Q E hp
  rw [e1] at hp
  exact wpP_bind (wpP_bind (wpP_mono (h _ s R st O P hx Q E hp) (fun b s1 x=>wpP_pure (wpP_pure x)) fun _ _ x=>x))
noncomputable abbrev eltP (elt:AE) (C:Call) (l:Nat) (k:St->Prop) (st:St):Prop:=vE T C elt st (fun y st3=>Lst st3.H l fun xs=>xs.length < LIM/\k ⟨st3.fr,st3.H.set l (.list (xs++[y]))⟩) fun _ _=>False
noncomputable abbrev condP (cond elt:AE) (C:Call) (l:Nat) (k:St->Prop) (st:St):Prop:=vE T C cond st (fun c st2=>compK cond c (eltP elt C l k st2) (k st2)) fun _ _=>False
noncomputable abbrev bodyP (tgt:AT0) (cond elt:AE) (C:Call) (l:Nat) (v:AV) (st:St) (k:St->Prop):Prop:=setT tgt v st.fr fun fr=>condP cond elt C l k ⟨fr,st.H⟩
structure Turns (Γ:Cx) (L n:Nat) (C:Call) (tgt:AT0) (cond elt:AE) (s:Shared) (R:Reg) (st:St) (l:Nat) (D:Addr):Prop where
 O:Ok Γ n C
 P:Pre Γ s R st
 tg:okT0 Γ.X.names Γ.X.env.scope.names tgt=true
 noCel:¬ ∃ i p,tgt=.cel i p
 acc:R[l]?=some (D,D)
 ce:(isAbs cond || okE L cond Γ.X.names Γ.X.env.scope.names)=true
 ee:okE L elt Γ.X.names Γ.X.env.scope.names=true
 ht:ST L n C cond
 he:SE L n C elt
theorem code_comp {iter:Expr} {scope:Scope} {pos:Pos} {it D:Addr} {l:Nat} {I:Nat->St->Prop} {k:St->Prop} (J:Turns Γ L n C tgt cond elt s₀ R₀ st₀ l D) (hn:s₀.heap.get? it=none)
  (step:∀ n v st,all[n]?=some v->I n st->stands wt all st.H/\bodyP tgt cond elt C l v st (I (n+1))) (fin:∀ st,I all.length st->stands wt all st.H/\k st) :
  ∀ (m i:Nat) (s:Shared) (R:Reg) (st:St),i + m=all.length->IterSt s.heap R it all wt i->After Γ s₀ R₀ s R st->I i st →
   codeP Γ.M Γ.A (.compLoop (.ListComp (toE L elt Γ.X.names) [⟨toT0 Γ.X.names L tgt,iter,(optE cond (toE L cond Γ.X.names)).toList,0⟩] scope pos) 0 (.ref it) (.ref D) Γ.X.env) (fun r s'=>r=.ok .next/\∃ R' stf,k stf/\After Γ s₀ R₀ s' R' stf) s:=by
 intro m
 induction m with
 | zero =>
  intro i s R st hi x af hI
  obtain rfl:i=all.length:=hi
  have f:=fin st hI
  refine codeP_of_tree ?_ rfl
  show wpP _ Γ.A ((compTurn _ 0 (.ref it) (.ref D) Γ.X.env).onRaise (fun x=>do noteFrame x Γ.X.env;theTreesLotGoes x)) _ _ s
  refine wpP_onRaise ?_
  rw [compTurn_eq]
  refine wpP_bind (wpP_standAt (wpP_bind (wpP_of (iter_next J.O.room.handled af.pre x f.1 (Nat.le_refl _) (fun a v h' tk e=>?_) fun h' _ he=>?_))))
  ·exact absurd (List.getElem?_eq_some_iff.mp e).1 (Nat.lt_irrefl _)
  ·exact wpP_pure ⟨rfl,R,st,f.2,After.turn (tk:=s.toks) J.O.fx J.P af hn x.obj he⟩
 | succ m ih =>
  intro i s R st hi x af hI
  have hlt:i < all.length:=hi▸Nat.lt_add_of_pos_right (Nat.succ_pos m)
  have f:=step i _ st (List.getElem?_eq_getElem hlt) hI
  refine codeP_of_tree ?_ rfl
  show wpP _ Γ.A ((compTurn _ 0 (.ref it) (.ref D) Γ.X.env).onRaise (fun x=>do noteFrame x Γ.X.env;theTreesLotGoes x)) _ _ s
  refine wpP_onRaise ?_
  rw [compTurn_eq]
  refine wpP_bind (wpP_standAt (wpP_bind (wpP_of (iter_next J.O.room.handled af.pre x f.1 (Nat.le_of_lt hlt) (fun a v h' tk e rv he x'=>?_) fun h' e _=>?_))))
  case refine_2=>exact absurd (get_out e) (Nat.not_le.mpr hlt)
  obtain rfl:=inj_some (List.getElem?_eq_getElem hlt) e
  have af1:After Γ s₀ R₀ { s with heap:=h',toks:=tk } R st:=After.turn J.O.fx J.P af hn x.obj he
  refine wpP_bind (wpP_of (x'.obj.notOwned (s:={ s with heap:=h',toks:=tk }) ?_))
  refine wpP_bind (wpP_mono (sim_assign0 J.O.room.handled af1.pre J.O.fx (fun q=>absurd q J.noCel) J.tg (rv.mono (x.obj.keeps9 he)) (fun _ st'=>condP cond elt C l (I (i+1)) st') (fun _ _=>False) f.2) ?_ fun _ _ x=>x.casesOn fun _ _ _ h=>h.elim)
  rintro u s2 ⟨_,st2,R2,hq,af2,_⟩
  have x2:=x'.after (s:={ s with heap:=h',toks:=tk }) af1.pre af2
  have afc:=af1.trans af2
  have go:∀ s' R' st',After Γ s2 R2 s' R' st'->I (i+1) st'->codeP Γ.M Γ.A (.compLoop (.ListComp (toE L elt Γ.X.names) [⟨toT0 Γ.X.names L tgt,iter,(optE cond (toE L cond Γ.X.names)).toList,0⟩] scope pos) 0 (.ref it) (.ref D) Γ.X.env) (fun r s'=>r=.ok .next/\∃ R' stf,k stf/\After Γ s₀ R₀ s' R' stf) s' :=
   fun s' R' st' a h=>ih (i+1) s' R' st' (by rw [Nat.succ_add];exact hi) (x2.after af2.pre a) (afc.trans a) h
  refine wpP_bind (wpP_mono (sim_tests J.ht J.O af2.pre J.ce (fun b st=>Bool.casesOn b (I (i+1) st) (eltP elt C l (I (i+1)) st)) (fun _ _=>False) hq) ?_ fun _ _ x=>x.casesOn fun _ _ _ h=>h.elim)
  rintro b s3 ⟨b',st3,R3,hq3,af3,hb⟩
  obtain rfl:b=b':=hb
  cases b with
  | false=>exact wpP_pure ⟨rfl,go s3 R3 st3 af3 hq3⟩
  | true =>
   refine wpP_bind (wpP_bind (wpP_mono (J.he _ s3 R3 st3 J.O af3.pre J.ee _ _ hq3) ?_ fun _ _ x=>x.casesOn fun _ _ _ h=>h.elim))
   rintro v s4 ⟨a4,st4,R4,hq4,af4,rv4⟩
   obtain ⟨xs,h4,hz,hk⟩:=hq4
   have aD:VRel s4.heap R4 (.ref D) (.ref l):=VRel.mkRef (b:=D) ((afc.trans (af3.trans af4)).step.get J.acc)
   refine wpP_bind (wpP_mono (sim_append af4.pre J.O.fx aD h4 rv4 hz (fun _ st=>I (i+1) st) (fun _ _=>False) hk) ?_ fun _ _ x=>x.casesOn fun _ _ _ h=>h.elim)
   rintro v5 s5 ⟨a5,st5,R5,hq5,af5,_⟩
   exact wpP_pure (wpP_pure ⟨rfl,go s5 R5 st5 (af3.trans (af4.trans af5)) hq5⟩)
end
end Ab
end
section
namespace Ab
open PySem PySem.W PySem.Calls PyProof.Rows PyProof.Rows.TI
section
variable {Γ:Cx} {s s₀ s':Shared} {R R₀ R':Reg} {st st₀ st':St} {h':Heap} {L n:Nat} {C:Call} {ns:List String} {sc:List (String×NameKind)} {caps:List (Nat×Nat)} {tgt:AT0} {elt it cond:AE} {all:List AV} {wt:Option Nat}
theorem namesLocal {X:Fx} (O:CompOk X ns sc caps tgt):∀ x∈scopeOf sc,x.2=.local->(scopeOf sc).lookup x.1=some .local:=fun x hx hl=>lookup_of_mem O.keys (hl▸hx)
theorem not_set {N:List String} {e:AE} {env:Env}:∀ v,foldedSetIterable (toE L e N) env v=pure v:=by cases e <;> exact fun _=>rfl
structure CompIn (Γ:Cx) (L n:Nat) (C:Call) (ns:List String) (sc:List (String×NameKind)) (caps:List (Nat×Nat)) (tgt:AT0) (elt it cond:AE):Prop where
 O:Ok Γ n C
 K:CompOk Γ.X ns sc caps tgt
 ie:okE L it Γ.X.names Γ.X.env.scope.names=true
 ee:okE L elt ns (compSc Γ.X.env.scope.names (scopeOf sc))=true
 ce:(isAbs cond || okE L cond ns (compSc Γ.X.env.scope.names (scopeOf sc)))=true
 hi:SE L n C it
 he:SE L n C elt
 ht:ST L n C cond
structure CompEnd (Γ:Cx) (s:Shared) (R:Reg) (st:St) (D G:Addr) (s5:Shared) (R5:Reg) (H:AH):Prop where
 af:After Γ s R s5 R5 ⟨st.fr,H⟩
 acc:R5[st.H.length]?=some (D,D)
 new:s.heap.get? G=none
 reg:G∉R5.map (·.2)
 own:G∉Γ.X.own
 ns:∃ m,s5.heap.Ns G m
theorem ns_noVal {G:Addr} {h:Heap} {m:Str->Option Value} (hN:h.Ns G m):∃ o,h.get? G=some o/\¬ ValObj o:=(ns_owned hN).casesOn fun o g f=>⟨o,g,f.noVal⟩
theorem CompEnd.letGo {D G:Addr} {s5:Shared} {R5:Reg} {H:AH} (x:CompEnd Γ s R st D G s5 R5 H) (P:Pre Γ s R st) (K:FxOk Γ.X) (hs:Heap.SameBut G s5.heap h'):After Γ s R { s5 with heap:=h' } R5 ⟨st.fr,H⟩:=by
 obtain ⟨m,hN⟩:=x.ns
 exact After.junk (ex:=[G]) K P.sat.keep x.af (junk1 ⟨x.new,x.reg,x.own,ns_noVal hN⟩) ⟨fun b p _ hb e=>(hs.2 b fun q=>hb (q▸.head _)).trans e,fun b p hb hn e=>⟨p.slots,(hs.2 b fun q=>x.own (q▸frames_own K hb)).trans e⟩⟩
theorem comp_core {pos:Pos} {v:Value} {x:AV} {use:Option (Value->Sem Unit)} {Q:Value->Shared->Prop} {E:Value->Shared->Prop} {k:St->St->Prop}
  (J:CompIn Γ L n C ns sc caps tgt elt it cond) (P:Pre Γ s R st) (r:VRel s.heap R v x)
  (hp:iterP x st.H fun all w=>ForI all w (bodyP tgt cond elt C st.H.length) ⟨capture caps st.fr ns.length,st.H++[.list []]⟩ (k st))
  (hQ:∀ D G s5 R5 stf,CompEnd Γ s R st D G s5 R5 stf.H->k st stf->CompPost Γ.M Γ.A E use Q (.ref D) G (.ok .next) s5) :
  wpP Γ.M Γ.A (pyIter v) (fun it' s₂=>wpP Γ.M Γ.A (newList []) (fun acc s₃ =>
   wpP Γ.M Γ.A (newFunctionEnv (cScope sc) Γ.X.env.globals (closeOf Γ.X.env.cells (scopeOf sc) []) [] Γ.X.env.qual none .none (some Γ.X.env)) (fun cenv s₄ =>
    codeP Γ.M Γ.A (.compStart (.ListComp (toE L elt ns) [⟨toT0 ns L tgt,toE L it Γ.X.names,(optE cond (toE L cond ns)).toList,0⟩] (cScope sc) pos) 0 it' acc { cenv with scope:=relabel (cScope sc) Γ.X.env }) (CompPost Γ.M Γ.A E use Q acc cenv.locals) s₄) E s₃) E s₂) E s:=by
 refine wpP_of (iter_start P r hp fun all wt h2 hF hI=>?_)
 obtain ⟨I,h0,step,fin⟩:=hF
 obtain ⟨o,vs,rfl,hd,x2⟩:=hI
 have a2:=After.push (o:=o) (tk:=s.toks) P
 have a3:=After.allocList (tk:=s.toks) (n:=0) (vs:=[]) (as:=[]) a2.pre VRels.nil (Nat.zero_le _)
 refine wpP_of (wpAny_newObj_type ?_ (Nat.zero_le _))
 refine wpP_of (wpAny_newFunctionEnv (fun y hy=>J.K.noCell y hy) (by intro y hy;simp at hy) (fun h4 hN hsb=>?_) rfl)
 have keep4:∀ b p,((s.heap.push o).push (listOf ([]:List Value).toArray 0)).get? b=some p->h4.get? b=some p:=fun b p e=>(hsb.2 b (Nat.ne_of_lt (Heap.lt_size e))).trans (Heap.get?_push_of_some _ e)
 have P4:=Pre.comp a3.pre J.O.fx J.K hN keep4
 have KY:=compX_ok a3.pre J.O.fx J.K
 have keep3:∀ b p,(s.heap.push o).get? b=some p->h4.get? b=some p:=fun b p e=>keep4 b p (Heap.get?_push_of_some _ e)
 have x4:IterSt h4 (R++[((s.heap.push o).objs.size,(s.heap.push o).objs.size)]) s.heap.objs.size all wt 0:=x2.mono (fun p e=>keep3 _ p e) (keeps9_app keep3)
 have gone2:∀ b,b≠s.heap.objs.size->(gone h4 [s.heap.objs.size]).get? b=h4.get? b:=fun b hb=>gone_get fun q=>hb (List.mem_singleton.mp q)
 have P₀:=Pre.junk (ex:=[s.heap.objs.size]) (h':=gone h4 [s.heap.objs.size]) P4 KY (junk1 (x4.obj.junk P4 (none_B P.sat (get_size_none _)))) (x4.obj.stays (fun b p hb e=>(gone2 b hb).trans e) _)
 have af4:=After.keepAll (h':=h4) (tk:=s.toks) P₀ fun b p e=>(gone_some e).2
 have hD3:(R++[((s.heap.push o).objs.size,(s.heap.push o).objs.size)])[st.H.length]?=some ((s.heap.push o).objs.size,(s.heap.push o).objs.size):=by rw [<-P.sat.len];exact get_last
 have hY:=compX_names (sc:=sc) (ns:=ns) (D:=((s.heap.push o).push (listOf ([]:List Value).toArray 0)).objs.size) J.O.fx
 have OY:Ok ⟨Γ.G,Γ.A,compX Γ ((s.heap.push o).push (listOf ([]:List Value).toArray 0)).objs.size ns sc⟩ n C:=⟨J.O.st,J.O.call,⟨J.O.room.handled,J.O.room.guards,J.O.room.frames,J.O.room.depth,J.O.room.units⟩,KY,J.K.nms⟩
 refine codeP_compStart ?_ (fun hq=>iter_self (Γ:=⟨Γ.G,Γ.A,Γ.X⟩) (s:={ s with heap:=h4,toks:=s.toks }) x4 hq)
 refine codeP_mono (code_comp (k:=k st) (iter:=toE L it Γ.X.names) (scope:=cScope sc) (pos:=pos) (D:=(s.heap.push o).objs.size) (l:=st.H.length)
  ⟨OY,P₀,hY▸J.K.tgt,J.K.noCel,hD3,hY▸J.ce,hY▸J.ee,J.ht,J.he⟩ (gone_none (.head _)) step fin all.length 0 _ _ _ (Nat.zero_add _) x4 af4 h0) ?_
 rintro rr s5 ⟨rfl,R5,stf,hk,af5⟩
 have hsz:((s.heap.push o).push (listOf ([]:List Value).toArray 0)).objs.size=s.heap.objs.size+1+1:=by rw [Heap.size_push,Heap.size_push]
 have freshG:s.heap.get? ((s.heap.push o).push (listOf ([]:List Value).toArray 0)).objs.size=none:=Heap.get?_none_of_le (hsz▸Nat.le_trans (Nat.le_succ _) (Nat.le_succ _))
 have keep0:∀ b p,s.heap.get? b=some p->(gone h4 [s.heap.objs.size]).get? b=some p:=fun b p e=>(gone2 b (Nat.ne_of_lt (Heap.lt_size e))).trans (keep3 b p (Heap.get?_push_of_some _ e))
 have hnd:=List.nodup_append.mp af5.pre.sat.nodup
 refine hQ _ _ s5 R5 stf ⟨?_,af5.step.get hD3,freshG,fun q=>hnd.2.2 _ q _ (.head _) rfl,fun q=>(List.nodup_cons.mp hnd.2.1).1 q,af5.pre.fr.ns.casesOn fun m hm _=>⟨m,hm⟩⟩ hk
 exact After.leaveG (A':=Γ.A) (X':=compX Γ ((s.heap.push o).push (listOf ([]:List Value).toArray 0)).objs.size ns sc) P J.O.fx.enter rfl (fun _ h=>h) (fun b hb=>List.mem_singleton.mp hb▸freshG) keep0 rfl [((s.heap.push o).objs.size,(s.heap.push o).objs.size)] rfl
  (fun p hp=>List.mem_singleton.mp hp▸Heap.get?_none_of_le (by rw [Heap.size_push];exact Nat.le_succ _)) P₀ af5
theorem closure_ok {s:Shared} {R:Reg} {st:St} (P:Pre Γ s R st) (K:CompOk Γ.X ns sc caps tgt):closureFor (cScope sc) Γ.X.env=pure (closeOf Γ.X.env.cells (scopeOf sc) []):=closureFor_eq (scope:=cScope sc) fun n hn=>cell_of_free P K hn
theorem se_comp {p:Nat} (hi:SE L n C it) (he:SE L n C elt) (ht:ST L n C cond):SE L n C (.comp ns sc caps tgt elt it cond p):=fun Γ s R st O P hx=>by
 have J:CompIn Γ L n C ns sc caps tgt elt it cond:=⟨O,compOk_of (and_r (and_l (and_l hx))),and_l (and_l (and_l hx)),and_r (and_l hx),and_r hx,hi,he,ht⟩
 show SimAt Γ VRel (eval (.ListComp (toE L elt ns) [⟨toT0 ns L tgt,toE L it Γ.X.names,(optE cond (toE L cond ns)).toList,0⟩] (cScope sc) (dp L p)) Γ.X.env) _ s R
 rw [arm_eval_ListComp]
 intro Q E hp
 refine wpP_comprehension (g:=⟨toT0 ns L tgt,toE L it Γ.X.names,(optE cond (toE L cond ns)).toList,0⟩) (gs:=[]) rfl not_set (closure_ok P J.K) rfl (namesLocal J.K) (wpP_mono (hi _ s R st O P J.ie _ _ hp) ?_ fun _ _ x=>x)
 rintro v s1 ⟨x,st1,R1,hq,af1,r1⟩
 refine comp_core J af1.pre r1 (k:=fun st st1=>Q (.ref st.H.length) ⟨st.fr,st1.H⟩) hq fun D G s5 R5 stf x hk=>?_
 obtain ⟨m,hN⟩:=x.ns
 exact ⟨m,hN,fun h' hsb=>⟨.ref st1.H.length,⟨st1.fr,stf.H⟩,R5,hk,af1.trans (x.letGo af1.pre J.O.fx hsb),VRel.mkRef (b:=D) x.acc⟩⟩
theorem sim_compUse {p:Nat} {t0:AT0} (J:CompIn Γ L n C ns sc caps tgt elt it cond) (FX:FnFx Γ.X) (P:Pre Γ s R st) (ht0:okT0 Γ.X.names Γ.X.env.scope.names t0=true) :
  SimAt Γ NoRel (evalThenUse (toE L (.comp ns sc caps tgt elt it cond p) Γ.X.names) Γ.X.env fun v=>assignAll v [assign (toT0 Γ.X.names L t0) Γ.X.env])
   (fun Q E=>vE T C (.comp ns sc caps tgt elt it cond p) st (fun v st=>setT t0 v st.fr fun fr=>Q () ⟨fr,st.H⟩) E) s R:=by
 intro Q E hp
 show wpP Γ.M Γ.A (comprehension (.ListComp (toE L elt ns) [⟨toT0 ns L tgt,toE L it Γ.X.names,(optE cond (toE L cond ns)).toList,0⟩] (cScope sc) (dp L p)) (cScope sc) Γ.X.env (toE L it Γ.X.names).pos (newList []) false (eval (toE L it Γ.X.names) Γ.X.env) (some fun v=>assign (toT0 Γ.X.names L t0) Γ.X.env v) >>= fun _=>pure ()) _ _ s
 refine wpP_bind (wpP_comprehension (g:=⟨toT0 ns L tgt,toE L it Γ.X.names,(optE cond (toE L cond ns)).toList,0⟩) (gs:=[]) rfl not_set (closure_ok P J.K) rfl (namesLocal J.K) (wpP_mono (J.hi _ s R st J.O P J.ie _ _ hp) ?_ fun _ _ x=>x))
 rintro v s1 ⟨x,st1,R1,hq,af1,r1⟩
 refine comp_core J af1.pre r1 (k:=fun st st1=>setT t0 (.ref st.H.length) st.fr fun fr=>Q () ⟨fr,st1.H⟩) hq fun D G s5 R5 stf x hk=>?_
 show wpP Γ.M Γ.A (assign (toT0 Γ.X.names L t0) Γ.X.env (.ref D)) _ _ s5
 refine wpP_mono (sim_assign0 J.O.room.handled x.af.pre J.O.fx (fun _=>FX) ht0 (VRel.mkRef (b:=D) x.acc) (fun _ st=>Q () st) (fun _ _=>False) hk) ?_ fun _ _ x=>x.casesOn fun _ _ _ h=>h.elim
 rintro u s6 ⟨_,st6,R6,hq6,af6,_⟩
 obtain ⟨m,o,es,ep,g,q⟩:=x.ns
 have g6:=af6.step.same G o g x.reg x.own
 have x6:CompEnd Γ s1 R1 ⟨st6.fr,st1.H⟩ D G s6 R6 st6.H:=⟨x.af.trans af6,af6.step.get x.acc,x.new,fun q=>by
  obtain ⟨new,rfl,hnew⟩:=af6.step.ext
  rw [List.map_append] at q
  exact (List.mem_append.mp q).elim x.reg fun q=>(List.mem_map.mp q).elim fun p z=>some_ne (hnew p z.1) (z.2▸g),x.own,m,o,es,ep,g6,q⟩
 exact ⟨m,⟨o,es,ep,g6,q⟩,fun h' hsb=>wpP_pure ⟨(),st6,R6,hq6,af1.trans (After.junk (ex:=[G]) J.O.fx af1.pre.sat.keep x6.af (junk1 ⟨x6.new,x6.reg,x6.own,ns_noVal ⟨o,es,ep,g6,q⟩⟩) ⟨fun b p _ hb e=>(hsb.2 b fun q=>hb (q▸.head _)).trans e,fun b p hb hn e=>⟨p.slots,(hsb.2 b fun q=>x6.own (q▸frames_own J.O.fx hb)).trans e⟩⟩),trivial⟩⟩
end
end Ab
end
section
namespace Ab
open PySem PySem.W PySem.Calls PyProof.Rows PyProof.Rows.TI
section
variable {L n:Nat} {C:Call}
structure EOk (L n:Nat) (C:Call) (e:AE):Prop where
 se:SE L n C e
 st:ST L n C e
structure EsOk (L n:Nat) (C:Call) (es:AEs):Prop where
 se:SEs L n C es
 sb:SBs L n C es
 st:STs L n C es
theorem EOk.of {e:AE} (h:SE L n C e) (hp:∀ N env,isTrue (toE L e N) env (eval (toE L e N) env)=(do let v ← eval (toE L e N) env;standAt (toE L e N).pos;PySem.holding [v] (truthy v))):EOk L n C e:=⟨h,fun Γ s R st O P hx=>by
 rw [hp]
 exact SimAt.bind (p:=vE T C e st) (g:=fun v st Q _=>v.isBool fun b=>Q b st) (h _ s R st O P hx) fun v s1 a st1 R1 af1 r1=>.standAt (sim_truthy af1.pre r1).holding⟩
theorem sound_e:∀ e:AE,EOk L n C e:=fun e=>AE.rec (motive_1:=EOk L n C) (motive_2:=EsOk L n C)
 (fun v p=>.of se_cst fun _ _=>rfl)
 (fun n p q=>.of se_neg fun _ _=>rfl)
 (fun i p=>.of se_loc fun _ _=>rfl)
 (fun i p=>.of se_cel fun _ _=>rfl)
 (fun x p=>.of se_glb fun _ _=>rfl)
 (fun op l r p hl hr=>.of (se_bin hl.se hr.se) fun _ _=>rfl)
 (fun op l r p hl hr=>⟨se_cmp hl.se hr.se,st_cmp hl.se hr.se⟩)
 (fun e p h=>⟨se_not h.se,st_not h.st⟩)
 (fun k es p h=>⟨se_bop h.sb,st_bop h.st⟩)
 (fun f es p q h=>.of (se_call h.se) fun _ _=>rfl)
 (fun f es p q h=>.of (se_new h.se) fun _ _=>rfl)
 (fun k es p q h=>.of (se_prim h.se) fun _ _=>rfl)
 (fun e p q r h=>.of (se_isb h.se) fun _ _=>rfl)
 (fun o m es p q ho h=>.of (se_meth ho.se h.se) fun _ _=>rfl)
 (fun o m es p q ho h=>.of (se_lmeth ho.se h.se) fun _ _=>rfl)
 (fun o a p ho=>.of (se_attr ho.se) fun _ _=>rfl)
 (fun o i p ho hi=>.of (se_sub ho.se hi.se) fun _ _=>rfl)
 (fun o l r p q ho hl hr=>.of (se_slc ho.se hl.se hr.se) fun _ _=>rfl)
 ⟨fun _ _ _ _ _ _ hx=>(nomatch (show false=true from hx)),fun _ _ _ _ _ _ hx=>(nomatch (show false=true from hx))⟩
 (fun es p h=>.of (se_lst h.se) fun _ _=>rfl)
 (fun es p h=>.of (se_tup h.se) fun _ _=>rfl)
 (fun ns sc caps tgt elt it cond p he hi hc=>.of (se_comp hi.se he.se hc.st) fun _ _=>rfl)
 ⟨ses_nil,sb_nil,stb_nil⟩
 (fun e es h hs=>⟨ses_cons h.se hs.se,by cases es with
  | nil=>exact sb_one h.se
  | cons e' es=>exact sb_more h.se hs.sb,by cases es with
  | nil=>exact stb_one h.st
  | cons e' es=>exact stb_more h.st hs.st⟩) e
variable (L n C) in
def SS (a:AS):Prop:=∀ Γ s R st,Ok Γ n C->FnFx Γ.X->Pre Γ s R st->okS L Γ.X.names Γ.X.env.scope.names a=true->SimAt Γ FlRel (exec (toS L Γ.X.names a) Γ.X.env) (vS T C a st) s R
variable (L n C) in
def SSs (as:ASs):Prop:=∀ Γ s R st,Ok Γ n C->FnFx Γ.X->Pre Γ s R st->okSs L Γ.X.names Γ.X.env.scope.names as=true->SimAt Γ FlRel (execs (toSs L Γ.X.names as) Γ.X.env) (vSs T C as st) s R
variable {e c:AE} {b o:ASs} {p q x y z:Nat} {Γ:Cx} {s:Shared} {R:Reg} {st:St}
theorem ss_ret0:SS L n C (.ret0 p):=fun Γ s R st O FX P hx=>by
 show SimAt Γ FlRel (standAt (dp L p) >>= fun _=>pure (.ret .none)) _ s R
 exact .standAt (.ok P (.ret .none))
theorem ss_ret:SS L n C (.ret e p):=fun Γ s R st O FX P hx=>by
 show SimAt Γ FlRel (standAt (dp L p) >>= fun _=>eval (toE L e Γ.X.names) Γ.X.env >>= fun v=>pure (.ret v)) (fun Q E=>vE T C e st (fun v st=>Q (.ret v) st) E) s R
 exact .standAt (SimAt.map (f:=Flow.ret) (g:=Fl.ret) ((sound_e e).se _ s R st O P hx) fun _ _ _ _ r=>.ret r)
theorem sss_nil:SSs L n C .nil:=fun Γ s R st O FX P hx=>.ok P .next
theorem sss_cons {a:AS} {as:ASs} (h:SS L n C a) (hs:SSs L n C as):SSs L n C (.cons a as):=fun Γ s R st O FX P hx=>by
 show SimAt Γ FlRel (exec (toS L Γ.X.names a) Γ.X.env >>= fun f=>match f with|.next=>execs (toSs L Γ.X.names as) Γ.X.env|f=>pure f) (fun Q E=>vS T C a st (onNext (fun st=>vSs T C as st Q E) Q) E) s R
 refine SimAt.bind (p:=vS T C a st) (g:=fun f st Q E=>onNext (fun st=>vSs T C as st Q E) Q f st) (h _ s R st O FX P (and_l hx)) fun f s1 fl st1 R1 af1 r1=>?_
 cases r1 with
 | next=>exact hs _ s1 R1 st1 O FX af1.pre (and_r hx)
 | ret r=>exact .ok af1.pre (.ret r)
theorem ss_ite (hb:SSs L n C b) (ho:SSs L n C o):SS L n C (.ite c b o p):=fun Γ s R st O FX P hx=>by
 show SimAt Γ FlRel (standAt (dp L p) >>= fun _=>isTrue (toE L c Γ.X.names) Γ.X.env (eval (toE L c Γ.X.names) Γ.X.env) >>= fun t=>if t=true then execs (toSs L Γ.X.names b) Γ.X.env else execs (toSs L Γ.X.names o) Γ.X.env) (fun Q E=>testP (vE T C c st) (fun t st=>ifb t (vSs T C b st Q E) (vSs T C o st Q E)) E) s R
 refine .standAt (SimAt.bind (p:=testP (vE T C c st)) (g:=fun t st Q E=>ifb t (vSs T C b st Q E) (vSs T C o st Q E)) ((sound_e c).st _ s R st O P (and_l (and_l hx))) fun t s1 t' st1 R1 af1 rl=>?_)
 obtain rfl:t=t':=rl
 cases t
 ·exact ho _ s1 R1 st1 O FX af1.pre (and_r hx)
 ·exact hb _ s1 R1 st1 O FX af1.pre (and_r (and_l hx))
theorem Ok.loop (O:Ok Γ n C) (FX:FnFx Γ.X) (P:Pre Γ s R st):Loop Γ s R st:=⟨FX,O.room.frames,O.room.handled,O.fx,P⟩
theorem ss_whl (hb:SSs L n C b):SS L n C (.whl c b p):=fun Γ s R st O FX P hx=>by
 show SimAt Γ FlRel (standAt (dp L p) >>= fun _=>runOwn (.whileLoop (toE L c Γ.X.names) (toSs L Γ.X.names b) [] Γ.X.env) Γ.X.env) _ s R
 refine .standAt fun Q E hp=>?_
 obtain ⟨I,k,h0,step⟩:=hp
 exact sim_runOwn (O.loop FX P) (code_while (fc:=fun st=>testP (vE T C c st)) (fb:=fun st=>vSs T C b st) (O.loop FX P) (fun s R st P=>(sound_e c).st _ s R st O P (and_l hx)) (fun s R st P=>hb _ s R st O FX P (and_r hx)) step k s R st (.refl P) h0)
theorem ss_for {t:AT0} (hb:SSs L n C b):SS L n C (.for t e b p):=fun Γ s R st O FX P hx=>by
 show SimAt Γ FlRel (standAt (dp L p) >>= fun _=>eval (toE L e Γ.X.names) Γ.X.env >>= fun v=>foldedSetIterable (toE L e Γ.X.names) Γ.X.env v >>= fun x=>standAt (toE L e Γ.X.names).pos >>= fun _=>PySem.holding [x] (pyIter x) >>= fun it=>runOwn (.forLoop (toT0 Γ.X.names L t) it (toSs L Γ.X.names b) [] Γ.X.env) Γ.X.env) _ s R
 refine .standAt (SimAt.bind (p:=vE T C e st) (g:=fun x st Q E=>iterP x st.H fun all w=>ForI all w (fun v st k=>setT t v st.fr fun fr=>vSs T C b ⟨fr,st.H⟩ (onNext k Q) E) st fun st=>Q .next st) ((sound_e e).se _ s R st O P (and_r (and_l hx))) fun v1 s1 x st1 R1 af1 r1=>?_)
 rw [not_set]
 refine .pureBind (.standAt fun Q E hp=>?_)
 refine wpP_bind (wpP_holding (wpP_of (iter_start af1.pre r1 hp fun all wt h' hF hI=>?_)))
 obtain ⟨I,h0,step,fin⟩:=hF
 obtain ⟨o,vs,rfl,hd,x'⟩:=hI
 exact sim_runOwn (O.loop FX af1.pre) (code_for (fb:=fun st=>vSs T C b st) (O.loop FX af1.pre) (get_size_none _) (and_l (and_l hx)) (fun s R st P=>hb _ s R st O FX P (and_r hx)) step fin all.length 0 _ R1 st1 (Nat.zero_add _) x' (After.push (tk:=s1.toks) af1.pre) h0)
theorem swaps_no {N:List String} {tg:Option Expr} {l:Nat} {env:Env} (he:isCmp e=false):swapsWith (toE L e N) tg l env=pure false:=by cases e <;> first|rfl|exact nomatch he
theorem wpAny_dropValue {prog:Program} {w:World} {A:Around} {e:Expr} {pos:Pos} {v:Value} {Q:Flow->Shared->Prop} {E:Value->Shared->Prop} (h:Q .next s):wpAny (model prog w) A (dropValue e pos v) Q E s:=by
 unfold dropValue
 split
 ·exact wpAny_pure h
 ·exact wpAny_bind (wpAny_standAt (wpAny_bind (wpAny_runValue (codeAny_builtin entry_let_go (show wpAny _ _ (ret .none) _ _ s from wpAny_pure (wpAny_pure h))))))
 ·exact wpAny_pure h
theorem not_t {a:Bool} (h:(!a)=true):a=false:=Bool.not_eq_true' a▸h
theorem ss_expr:SS L n C (.expr e p):=fun Γ s R st O FX P hx=>by
 show SimAt Γ FlRel (exec (.Expr (toE L e Γ.X.names) (dp L p)) Γ.X.env) (fun Q E=>vE T C e st (fun _ st=>Q .next st) E) s R
 have hi:interactive Γ.X.env=false:=by unfold interactive;rw [O.fx.kind];rfl
 rw [arm_exec_Expr,hi,swaps_no (not_t (and_r hx))]
 refine .standAt ?_
 simp only [Bool.false_eq_true,if_false]
 refine .pureBind ?_
 simp only [Bool.false_eq_true,if_false]
 exact SimAt.bind (p:=vE T C e st) (g:=fun _ st Q _=>Q Fl.next st) ((sound_e e).se _ s R st O P (and_l hx)) fun v s1 a st1 R1 af1 r1=>.rule fun Q E hp=>wpAny_dropValue ⟨.next,st1,R1,hp,.refl af1.pre,.next⟩
theorem ss_aug {i:Nat} {op:Operator}:SS L n C (.aug i op e p q):=fun Γ s R st O FX P hx=>by
 show SimAt Γ FlRel (exec (.AugAssign (.Name (Str.ofString (Γ.X.names.getD i "")) (dp L p)) op (toE L e Γ.X.names) (dp L q)) Γ.X.env) (fun Q E=>getFr i st.fr fun a=>vE T C e st (fun b st=>augP op a b fun v=>setFr v i st.fr fun fr=>Q .next ⟨fr,st.H⟩) E) s R
 have q:=slot0 (and_l hx)
 rw [arm_exec_AugAssign]
 refine .standAt (.getFr fun a ha=>?_)
 refine SimAt.bind (p:=fun Q _=>Q a st) (g:=fun a st Q E=>vE T C e st (fun b st=>augP op a b fun v=>setFr v i st.fr fun fr=>Q Fl.next ⟨fr,st.H⟩) E) (sim_loc P O.fx q.at' q.k ha) fun v1 s1 a st1 R1 af1 r1=>?_
 refine SimAt.bind (g:=fun b st Q _=>augP op a b fun v=>setFr v i st.fr fun fr=>Q Fl.next ⟨fr,st.H⟩) ((sound_e e).se _ s1 R1 st1 O af1.pre (and_r hx)).holding fun v2 s2 b st2 R2 af2 r2=>.standAt ?_
 refine SimAt.bind (p:=fun Q _=>augP op a b fun v=>Q v st2) (g:=fun v st Q _=>setFr v i st.fr fun fr=>Q Fl.next ⟨fr,st.H⟩) (sim_aug af2.pre (r1.mono (af2.keeps9 af1.pre)) r2).operate fun v3 s3 c st3 R3 af3 r3=>?_
 show SimAt Γ FlRel (assign (nmE Γ.X.names i p L) Γ.X.env v3 >>= fun _=>pure Flow.next) _ s3 R3
 exact SimAt.bind (p:=fun Q _=>setFr c i st3.fr fun fr=>Q () ⟨fr,st3.H⟩) (g:=fun _ st Q _=>Q Fl.next st) (sim_setLoc af3.pre O.fx q r3) fun _ s4 _ st4 R4 af4 _=>.ok af4.pre .next
end
end Ab
end
section
namespace Ab
open PySem PySem.W PySem.Calls PyProof.Rows PyProof.Rows.TI
section
variable {L n:Nat} {C:Call} {e c o l:AE} {p q x y z:Nat} {Γ:Cx} {s:Shared} {R:Reg} {st:St} {ov iv v:Value} {a b k:AV}
theorem VRels.set {h:Heap} {vs:List Value} {xs:List AV} (r:VRels h R vs xs) (i:Nat) (rv:VRel h R v a):VRels h R (vs.set i v) (xs.set i a):=by
 refine ⟨by rw [List.length_set,List.length_set,r.len],fun j u b e1 e2=>?_⟩
 by_cases hj:i=j
 ·subst hj
  have h1:=(List.getElem?_eq_some_iff.mp e1).1
  have h2:=(List.getElem?_eq_some_iff.mp e2).1
  rw [List.length_set] at h1 h2
  rw [List.getElem?_set_self h1] at e1
  rw [List.getElem?_set_self h2] at e2
  cases e1;cases e2
  exact rv
 ·rw [List.getElem?_set_ne hj] at e1 e2
  exact r.ix j u b e1 e2
theorem sim_setS (P:Pre Γ s R st) (K:FxOk Γ.X) (ro:VRel s.heap R ov b) (ri:VRel s.heap R iv k) (rv:VRel s.heap R v a):SimAt Γ NoRel (setItem ov iv v) (fun Q _=>setS b k a st fun st=>Q () st) s R:=by
 refine .isRef fun l e1=>.nt fun m e2=>.lst fun xs hl=>.and fun hz Q E hp=>?_
 subst e1 e2
 obtain ⟨t,rfl⟩:=ri.int_v
 obtain ⟨p,us,m',rfl,e,z,g,r⟩:=P.lst ro hl
 refine wpP_of (ki_setAt g (Int.natCast_nonneg m) (lim63 (Nat.lt_of_lt_of_le hz z)) (by rw [List.size_toArray,r.len];exact Int.ofNat_lt.mpr hz) ?_)
 rw [Int.toNat_natCast]
 have hself:=PySem.IsL.update g (·.setIfInBounds m v)
 have hk:∀ b o,b≠p->s.heap.get? b=some o->(s.heap.update p (Obj.mapSeq (·.setIfInBounds m v))).get? b=some o:=fun b o hb e=>by
  rw [Heap.get?_update_ne _ _ _ _ hb];exact e
 have k9:=P.sat.upd_keeps9 (.inl (mem_snd e)) hk
 exact ⟨(),_,R,hp,After.upd (tk:=s.toks) P K e hk hself ⟨_,_,rfl,by rw [List.length_set];exact z,hself,(show us.set m v=(us.toArray.setIfInBounds m v).toList from by rw [List.setIfInBounds_toArray])▸(r.set m rv).mono k9⟩,trivial⟩
theorem sim_setA {f:Nat} (O:Ok Γ n C) (P:Pre Γ s R st) (ro:VRel s.heap R ov b) (rv:VRel s.heap R v a):SimAt Γ NoRel (setAttr ov (Str.ofString (nm f)) v) (fun Q _=>setA T b f a st fun st=>Q () st) s R:=by
 refine .isRef fun l e1=>.ins fun c fs hH=>.and fun hf=>.and fun hz=>?_
 subst e1
 exact sim_setAttr O.st.frag P O.fx ro hH hz rv (O.st.field c f hf)
theorem SimAt.letGo {t:Sem Unit} {p:PT Unit} {vs:List Value} {δ:Type} {k:Unit->Sem δ} {u v:List Value} {rel:Rl δ Unit} (h:SimAt Γ NoRel t p s R) (hk:∀ s R st,Pre Γ s R st->SimAt Γ rel (k ()) (fun Q _=>Q () st) s R):SimAt Γ rel (PySem.holding vs t >>= fun _=>release u v >>= k) p s R :=
 SimAt.bind (g:=fun _ st (Q:Unit->St->Prop) _=>Q () st) h.holding fun _ s1 _ st1 R1 af1 _=>.skip (fun hq=>wpAny_release hq) (hk _ _ _ af1.pre)
theorem sim_assign {t:AT} (O:Ok Γ n C) (FX:FnFx Γ.X) (P:Pre Γ s R st) (hr:okT L Γ.X.names Γ.X.env.scope.names t e=true) (rv:VRel s.heap R v a) :
  SimAt Γ NoRel (assign (toT L Γ.X.names t) Γ.X.env v) (fun Q E=>vT T C t a st (fun st=>Q () st) E) s R:=by
 cases t with
 | t0 t =>
  refine sim_assign0 O.room.handled P O.fx (fun _=>FX) ?_ rv
  cases t with
  | tup is p=>exact and_l (and_l hr)
  | _=>exact hr
 | attr o f p =>
  show SimAt Γ NoRel (PySem.holding [v] (eval (toE L o Γ.X.names) Γ.X.env) >>= fun ov=>standAt (dp L p).atName >>= fun _=>PySem.holding [v,ov] (setAttr ov (Str.ofString (nm f)) v) >>= fun _=>release [v,ov] []) (fun Q E=>vE T C o st (fun x st=>setA T x f a st fun st=>Q () st) E) s R
  refine SimAt.bind (p:=vE T C o st) (g:=fun x st Q _=>setA T x f a st fun st=>Q () st) ((sound_e o).se _ s R st O P (and_l hr)).holding fun ov s1 x st1 R1 af1 r1=>.standAt ?_
  exact SimAt.bind (g:=fun _ st (Q:Unit->St->Prop) _=>Q () st) (sim_setA O af1.pre r1 (rv.mono (af1.keeps9 P))).holding fun _ s2 _ st2 R2 af2 _=>.rule fun Q E hp=>wpAny_release ⟨(),st2,R2,hp,.refl af2.pre,trivial⟩
 | sub o i p =>
  have key:∀ rl:List Value->List Value->List Value,SimAt Γ NoRel (PySem.holding [v] (eval (toE L o Γ.X.names) Γ.X.env) >>= fun ov=>PySem.holding [v,ov] (eval (toE L i Γ.X.names) Γ.X.env) >>= fun iv=>standAt (dp L p) >>= fun _=>PySem.holding [v,ov,iv] (setItem ov iv v) >>= fun _=>release (rl [iv,v,ov] [v,ov,iv]) [])
    (fun Q E=>vE T C o st (fun x st=>vE T C i st (fun j st=>setS x j a st fun st=>Q () st) E) E) s R:=fun rl=>by
   refine SimAt.bind (p:=vE T C o st) (g:=fun x st Q E=>vE T C i st (fun j st=>setS x j a st fun st=>Q () st) E) ((sound_e o).se _ s R st O P (and_l (and_l hr))).holding fun ov s1 x st1 R1 af1 r1=>?_
   refine SimAt.bind (p:=vE T C i st1) (g:=fun j st Q _=>setS x j a st fun st=>Q () st) ((sound_e i).se _ s1 R1 st1 O af1.pre (and_r (and_l hr))).holding fun iv s2 j st2 R2 af2 r2=>.standAt ?_
   have k9:=af2.keeps9 af1.pre
   exact SimAt.bind (g:=fun _ st (Q:Unit->St->Prop) _=>Q () st) (sim_setS af2.pre O.fx (r1.mono k9) r2 ((rv.mono (af1.keeps9 P)).mono k9)).holding fun _ s3 _ st3 R3 af3 _=>.rule fun Q E hp=>wpAny_release ⟨(),st3,R3,hp,.refl af3.pre,trivial⟩
  exact key fun a b=>match (generalizing:=false) toE L i Γ.X.names with|.Slice _ _ none _=>a|_=>b
theorem isCmp_of {a:Bool} (h:(a&&!isCmp e)=true):isCmp e=false:=not_t (and_r h)
theorem ss_asg {t:AT}:SS L n C (.asg t e p):=fun Γ s R st O FX P hx=>by
 show SimAt Γ FlRel (exec (.Assign [toT L Γ.X.names t] (toE L e Γ.X.names) (dp L p)) Γ.X.env) (fun Q E=>vE T C e st (fun v st=>vT T C t v st (fun st=>Q .next st) E) E) s R
 have h1:=and_l hx
 have h2:=and_r hx
 have hst:swappedStores [toT L Γ.X.names t] (toE L e Γ.X.names) Γ.X.env=pure none:=by
  cases t with
  | t0 t =>
   cases t with
   | tup is p=>cases e <;> first|rfl|exact nomatch (show false=true from h1)|exact nomatch (show true=false from not_t (and_r (and_l h2)))
   | _=>rfl
  | _=>rfl
 have ha:(assignEach [toT L Γ.X.names t] Γ.X.env).map (·.2)=[assign (toT L Γ.X.names t) Γ.X.env]:=by
  cases t with
  | t0 t=>cases t <;> rfl
  | _=>rfl
 have plain:swapsWithSole [toT L Γ.X.names t] (toE L e Γ.X.names) (dp L p).line Γ.X.env=pure false->SimAt Γ FlRel (exec (.Assign [toT L Γ.X.names t] (toE L e Γ.X.names) (dp L p)) Γ.X.env) (fun Q E=>vE T C e st (fun v st=>vT T C t v st (fun st=>Q .next st) E) E) s R:=fun hs=>by
  rw [arm_exec_Assign,hs,hst,ha]
  refine .standAt (.pureBind ?_)
  simp only [Bool.false_eq_true,if_false]
  refine SimAt.bind (p:=vE T C e st) (g:=fun v st Q E=>vT T C t v st (fun st=>Q Fl.next st) E) ((sound_e e).se _ s R st O P h1) fun v s1 a st1 R1 af1 r1=>.pureBind ?_
  show SimAt Γ FlRel (assign (toT L Γ.X.names t) Γ.X.env v >>= fun _=>pure .next) _ s1 R1
  exact SimAt.bind (p:=fun Q E=>vT T C t a st1 (fun st=>Q () st) E) (g:=fun _ st Q _=>Q Fl.next st) (sim_assign O FX af1.pre h2 r1) fun _ s2 _ st2 R2 af2 _=>.ok af2.pre .next
 cases hc:isCmp e with
 | false=>exact plain (swaps_no hc)
 | true =>
  cases e <;> try exact nomatch (show false=true from hc)
  rename_i ns sc caps tgt elt it cond p'
  cases t with
  | attr o f p=>exact nomatch (show true=false from not_t (and_r h2))
  | sub o i p=>exact nomatch (show true=false from not_t (and_r h2))
  | t0 t =>
   have ht0:okT0 Γ.X.names Γ.X.env.scope.names t=true:=by
    cases t with
    | tup is p=>exact and_l (and_l h2)
    | _=>exact h2
   have hb:∃ b,swapsWithSole [toT0 Γ.X.names L t] (toE L (.comp ns sc caps tgt elt it cond p') Γ.X.names) (dp L p).line Γ.X.env=pure b:=by cases t <;> exact ⟨_,rfl⟩
   obtain ⟨b,hb⟩:=hb
   cases b with
   | false=>exact plain hb
   | true =>
    rw [arm_exec_Assign,show toT L Γ.X.names (.t0 t)=toT0 Γ.X.names L t from rfl,hb,show (assignEach [toT0 Γ.X.names L t] Γ.X.env).map (·.2)=[assign (toT0 Γ.X.names L t) Γ.X.env] from ha]
    refine .standAt (.pureBind ?_)
    simp only [if_true]
    have J:CompIn Γ L n C ns sc caps tgt elt it cond:=⟨O,compOk_of (and_r (and_l (and_l h1))),and_l (and_l (and_l h1)),and_r (and_l h1),and_r h1,(sound_e it).se,(sound_e elt).se,(sound_e cond).st⟩
    exact SimAt.bind (p:=fun Q E=>vE T C (.comp ns sc caps tgt elt it cond p') st (fun v st=>setT t v st.fr fun fr=>Q () ⟨fr,st.H⟩) E) (g:=fun _ st Q _=>Q Fl.next st) (sim_compUse (p:=p') J FX P ht0) fun _ s2 _ st2 R2 af2 _=>.ok af2.pre .next
theorem ss_augAttr {i f:Nat} {op:Operator}:SS L n C (.augAttr i f op e p q x):=fun Γ s R st O FX P hx=>by
 show SimAt Γ FlRel (exec (.AugAssign (.Attribute (.Name (Str.ofString (Γ.X.names.getD i "")) (dp L p)) (Str.ofString (nm f)) (dp L q)) op (toE L e Γ.X.names) (dp L x)) Γ.X.env) (fun Q E=>getFr i st.fr fun a=>a.isRef fun l=>Ins st.H l fun c fs=>T.field c f=true/\optP (fget f fs) fun old=>vE T C e st (fun b st=>augP op old b fun v=>setA T a f v st fun st=>Q .next st) E) s R
 have q:=slot_k O (and_l hx)
 rw [arm_exec_AugAssign_2]
 refine .standAt (.getFr fun a ha=>?_)
 refine SimAt.bind (p:=fun Q _=>Q a st) (g:=fun a st Q E=>a.isRef fun l=>Ins st.H l fun c fs=>T.field c f=true/\optP (fget f fs) fun old=>vE T C e st (fun b st=>augP op old b fun v=>setA T a f v st fun st=>Q Fl.next st) E) (sim_Name q.d (sim_loc P O.fx q.at' q.k ha)) fun ov s1 a st1 R1 af1 r1=>?_
 refine .isRef fun l e1=>.ins fun c fs hH=>.and fun hf=>?_
 subst e1
 refine SimAt.bind (rel:=VRel) (p:=fun Q E=>optP (fget f fs) fun old=>vE T C e st1 (fun b st=>augP op old b fun v=>Q v st) E) (g:=fun v st Q _=>setA T (.ref l) f v st fun st=>Q Fl.next st) (.holding (.standAt ?_)) fun new s2 v st2 R2 af2 r2=>.standAt ?_
 ·refine SimAt.bind (p:=fun Q _=>optP (fget f fs) fun r=>Q r st1) (g:=fun old st Q E=>vE T C e st (fun b st=>augP op old b fun v=>Q v st) E) (sim_getAttr O.st.frag af1.pre r1 hH (O.st.field c f hf)) fun old s3 o st3 R3 af3 r3=>?_
  exact SimAt.bind (p:=vE T C e st3) (g:=fun b st Q _=>augP op o b fun v=>Q v st) ((sound_e e).se _ s3 R3 st3 O af3.pre (and_r hx)).holding fun v2 s4 b st4 R4 af4 r4=>.standAt (sim_aug af4.pre (r3.mono (af4.keeps9 af3.pre)) r4).operate
 ·exact SimAt.bind (g:=fun _ st Q _=>Q Fl.next st) (sim_setA O af2.pre (r1.mono (af2.keeps9 af1.pre)) r2).holding fun _ s3 _ st3 R3 af3 _=>.skip (fun h=>wpAny_release h) (.ok af3.pre .next)
end
end Ab
end
section
namespace Ab
open PySem PySem.W PySem.Calls PyProof.Rows PyProof.Rows.TI
theorem OwnTail.keeps {h h':Heap} {bmB:List Value} (hk:∀ b o,h.get? b=some o->h'.get? b=some o) {l:List Value} (x:OwnTail h bmB l):OwnTail h' bmB l:=by
 induction x with
 | base=>exact .base
 | own e n q _ ih=>exact .own (hk _ _ e) (n.keeps hk) q ih
section
variable {prog:Program} {w:World} {A:Around} {B:Heap} {s:Shared}
theorem wpAny_raise_made {Cl e t:Addr} {Q:Flow->Shared->Prop} {E:Value->Shared->Prop} {env:Env} (O:ExcOk B Cl) (hk:∀ b o,B.get? b=some o->s.heap.get? b=some o) (hh:A.handled=none)
  (he:s.heap.get? e=some { cls:=.ref Cl,data:=.fields #[.ref t,.none,.none,.none,.bool false,.none] }) (h:E (.ref e) s):wpAny (model prog w) A (raiseStmt env (some (pure (.ref e))) none) Q E s:=by
 obtain ⟨nm,q,N,bs,bm,hdct,sn,sub,ab,col,dd,k0,k1,k2,k3,k5,mN,hC,hN,hi,hT,hb⟩:=O.ex
 exact wpAny_raiseStmt_made_sub (C:=Cl) hb hh (wpAny_pure ⟨e,t,rfl,hk _ _ hC,he,h⟩)
theorem wpAny_make_exc {Cl:Addr} {v:List Value} {Q:Value->Shared->Prop} {E:Value->Shared->Prop} (O:ExcOk B Cl) (hk:∀ b o,B.get? b=some o->s.heap.get? b=some o) (hz:v.length<=sizeLine)
  (h:∀ h' e,Heap.MadeExcOf s.heap h' e (.ref Cl) v->Q (.ref e) { s with heap:=h' }):wpAny (model prog w) A (call (.ref Cl) v) Q E s:=by
 obtain ⟨nm,q,N,bs,bm,hdct,sn,sub,ab,col,dd,k0,k1,k2,k3,k5,mN,hC,hN,hi,hT,hb⟩:=O.ex
 obtain ⟨hp,g,d,tk,os⟩:=s
 exact wpAny_call_exc_subU (hrest:=hz) (B:="Exception") (Bn:="Exception") PySem.F.excBase_Exception rfl PySem.F.excBase_Exception (OwnTail.keeps hk hT) (hk _ _ hC) (hN.keeps hk) hi h
theorem wpAny_keeper_exc {Cl:Addr} {Q:Keeper->Shared->Prop} {E:Value->Shared->Prop} (O:ExcOk B Cl) (hk:∀ b o,B.get? b=some o->s.heap.get? b=some o) (h:Q .machine s):wpAny (model prog w) A (keeperOf (.ref Cl)) Q E s:=by
 obtain ⟨nm,q,N,bs,bm,hdct,sn,sub,ab,col,dd,k0,k1,k2,k3,k5,mN,hC,hN,hi,hT,hb⟩:=O.ex
 obtain ⟨hp,g,d,tk,os⟩:=s
 exact wpAny_keeperOf_exc (hk _ _ hC) h
end
theorem log2_lt {i:Int} (h:-(2 ^ 512:Int) < i/\i < 2 ^ 512):i.natAbs.log2 < 1920:=by
 by_cases h0:i.natAbs=0
 ·rw [h0];decide
 ·rw [Nat.log2_lt h0]
  have h1:i.natAbs < 2 ^ 512:=by
   have:(2 ^ 512:Nat)=((2 ^ 512:Int)).toNat:=by decide +kernel
   omega
  exact Nat.lt_of_lt_of_le h1 (Nat.pow_le_pow_right (by decide) (by decide))
structure IntsD (h:Heap) (vs:List Value) (is:List Int):Prop where
 reads:∃ as,ReadsAll h vs (is.map .int) as
 shw:PyData.showableAll (is.map .int)=true
 dict:PyData.hasDictAll (is.map .int)=false
 depth:PyData.depthAll (is.map .int)<=1
 len:(PyData.shownAll (is.map .int)).length=is.length
 sum:((PyData.shownAll (is.map .int)).map (·.length)).sum<=13 * is.length
theorem ints_data {h:Heap} {vs:List Value} {is:List Int} (r:IntsAre vs is) (hm:∀ i∈is,-(2 ^ 30:Int) < i/\i < 2 ^ 30):IntsD h vs is:=by
 induction r with
 | nil=>exact ⟨⟨[],.nil⟩,rfl,rfl,by simp [PyData.depthAll],rfl,Nat.le_refl _⟩
 | @cons i t vs is r ih =>
  have d:=ih fun j hj=>hm j (.tail _ hj)
  have h1:=hm i (.head _)
  obtain ⟨as,hr⟩:=d.reads
  refine ⟨⟨[]++as,.cons (.int i t) hr⟩,?_,?_,?_,congrArg (·+1) d.len,?_⟩
  ·show PyData.showableAll (.int i::is.map .int)=true
   simp only [PyData.showableAll,PyData.showable,d.shw,Bool.and_true,decide_eq_true_eq]
   exact log2_lt ⟨Int.lt_trans (by decide) h1.1,Int.lt_trans h1.2 (by decide)⟩
  ·show PyData.hasDictAll (.int i::is.map .int)=false
   simp only [PyData.hasDictAll,PyData.hasDict,d.dict,Bool.or_false]
  ·show PyData.depthAll (.int i::is.map .int)<=1
   have:=d.depth
   simp only [PyData.depthAll,PyData.depth]
   exact Nat.max_le.mpr ⟨by decide,this⟩
  ·show (PyData.shown (.int i)).length + _<=13 * (is.length+1)
   rw [Nat.mul_succ,Nat.add_comm]
   exact Nat.add_le_add d.sum (PyData.shown_int_le (by omega))
section
variable {L n:Nat} {C:Call} {Γ:Cx} {s:Shared} {R:Reg} {st:St} {v:Value} {a:AV} {e:AE}
theorem rooms {a b c:Nat} (h:a + b + 300 < c) {d:Nat} (hd:d<=10):a + d < c:=by omega
theorem wpAny_fmt {Q:Value->Shared->Prop} {E:Value->Shared->Prop} (O:Ok Γ n C) (P:Pre Γ s R st) (r:VRel s.heap R v a) (hf:fmtP a st.H)
  (h:∀ x t h' tk,x.length<=20000->(∀ b o,s.heap.get? b=some o->h'.get? b=some o)->Q (.str x t) { s with heap:=h',toks:=tk }):wpAny Γ.M Γ.A (formatField v Str.empty) Q E s:=by
 cases a with
 | int i =>
  obtain ⟨t,rfl⟩:=r.int_v
  refine wpAny_formatField_int (log2_lt hf) (h _ _ s.heap _ ?_ fun _ _ e=>e)
  rw [PySem.ofString_length]
  exact Nat.le_trans (PySem.int_text_length_le (k:=1920) (by decide) (log2_lt hf)) (by decide)
 | ref l =>
  obtain ⟨xs,hH,is,rfl,hz,hm⟩:=hf
  obtain ⟨p,us,m,rfl,_,z,g,rv⟩:=P.lst r hH
  have d:=ints_data (h:=s.heap) (ints_are rv) hm
  obtain ⟨as,hr⟩:=d.reads
  have hl:(PyData.shown (.list (is.map .int))).length<=20000:=by
   have e1:=listText_len_le (PyData.shownAll (is.map .int))
   have e2:=d.sum
   have e3:=d.len
   simp only [PyData.shown]
   omega
  refine formatField_of_reads (h₀:=s.heap) (.list g rfl rfl (by simpa using hr)) (by simp only [PyData.showable];exact d.shw) (fun q=>?_) O.room.guards (rooms O.room.units ?_) (fun _ _ e=>e) (fun h' u tk hk=>h _ u h' tk hl hk) (Nat.le_trans hl (by decide))
  ·simp only [PyData.hasDict] at q;rw [d.dict] at q;cases q
  ·have:=d.depth
   simp only [PyData.depth]
   omega
 | _=>exact hf.elim
abbrev AnyRel:Rl Value Unit:=fun _ _ _ _=>True
theorem part_le {a b m:Nat} (h:a + (m+1) * 20000<=500000) (hb:b<=20000):a + b + m * 20000<=500000/\¬ a + b>sizeLine:=by
 show _/\¬ a + b>16777216
 omega
theorem sim_parts (fs:AFs):∀ (out:Str) (Γ:Cx) (s:Shared) (R:Reg) (st:St),Ok Γ n C->Pre Γ s R st->okFs L Γ.X.names Γ.X.env.scope.names fs=true->out.length + fs.len * 20000<=500000 →
  SimAt Γ AnyRel (joinParts out (evalEach (toFs L Γ.X.names fs) Γ.X.env)) (fun Q E=>vF T C fs st (fun st=>Q () st) E) s R:=by
 induction fs with
 | nil=>exact fun out Γ s R st O P hx hz=>.leaf (a:=()) P fun k=>wpAny_mkStr (k _ _ trivial) (Nat.le_trans (Nat.le_trans (Nat.le_add_right _ _) hz) (by decide))
 | txt t p r ih =>
  intro out Γ s R st O P hx hz
  show SimAt Γ AnyRel (joinParts out (eval (.Constant (.str (Str.ofString t)) 0 (dp L p)) Γ.X.env::evalEach (toFs L Γ.X.names r) Γ.X.env)) (fun Q E=>vF T C r st (fun st=>Q () st) E) s R
  have hl:=part_le hz (Nat.le_trans (Nat.le_of_ble_eq_true (and_l hx)) (by decide))
  rw [joinParts,arm_eval_Constant]
  refine SimAt.bind (rel:=fun _ _ v _=>∃ tk,v=.str (Str.ofString t) tk) (p:=fun Q _=>Q () st) (g:=fun _ st Q E=>vF T C r st (fun st=>Q () st) E) (.leaf (a:=()) P fun k=>wpAny_mkText (k _ _ ⟨_,rfl⟩)) fun v s1 _ st1 R1 af1 hv=>?_
  obtain ⟨tk,rfl⟩:=hv
  refine .pureBind ?_
  dsimp only
  rw [if_neg hl.2]
  exact ih _ Γ s1 R1 st1 O af1.pre (and_r hx) (by rw [strLen_append];exact hl.1)
 | fmt e p r ih =>
  intro out Γ s R st O P hx hz
  show SimAt Γ AnyRel (joinParts out (eval (.FormattedValue (toE L e Γ.X.names) (-1) none (dp L p)) Γ.X.env::evalEach (toFs L Γ.X.names r) Γ.X.env)) (fun Q E=>vE T C e st (fun v st=>fmtP v st.H/\vF T C r st (fun st=>Q () st) E) E) s R
  rw [joinParts,arm_eval_FormattedValue]
  intro Q E hp
  refine wpP_bind (wpP_bind (wpP_mono ((sound_e e).se _ s R st O P (and_l hx) _ _ hp) ?_ fun _ _ x=>x))
  rintro v s1 ⟨a,st1,R1,hq,af1,r1⟩
  refine wpP_bind (wpP_standAt (wpP_bind (wpP_holding (wpP_pure ?_))))
  show wpP _ Γ.A (formatField v Str.empty) _ _ s1
  refine wpP_of (wpAny_fmt O af1.pre r1 hq.1 fun x t h' tk hl hk=>?_)
  have af2:=After.keepAll (tk:=tk) af1.pre hk
  have hl:=part_le hz hl
  refine wpP_bind (wpP_pure ?_)
  dsimp only
  rw [if_neg hl.2]
  have af:=af1.trans af2
  exact wpP_mono (ih _ Γ _ _ st1 O af2.pre (and_r hx) (by rw [strLen_append];exact hl.1) Q E hq.2) (fun _ _=>Lift.after af) fun _ _=>LiftE.after af
end
end Ab
end
section
namespace Ab
open PySem PySem.W PySem.Calls PyProof.Rows PyProof.Rows.TI
section
variable {L n:Nat} {C:Call} {Γ:Cx} {s s₀ s':Shared} {R R₀:Reg} {st st₀:St} {v:Value} {a:AV} {e:AE}
noncomputable abbrev msgE (L:Nat) (N:List String) (t:Option String) (fs:AFs) (p:Nat):Expr:=Option.casesOn t (.JoinedStr (toFs L N fs) (dp L p)) fun x=>.Constant (.str (Str.ofString x)) 0 (dp L p)
theorem sim_msg {t:Option String} {fs:AFs} {p:Nat} (O:Ok Γ n C) (P:Pre Γ s R st) (h:Option.casesOn (motive:=fun _=>Bool) t (Nat.ble 2 fs.len&&Nat.ble fs.len 20&&okFs L Γ.X.names Γ.X.env.scope.names fs) (fun _=>Nat.beq fs.len 0)=true) :
  SimAt Γ AnyRel (eval (msgE L Γ.X.names t fs p) Γ.X.env) (fun Q E=>vF T C fs st (fun st=>Q () st) E) s R:=by
 cases t with
 | some x =>
  have e1:fs=.nil:=by cases fs <;> first|rfl|exact nomatch (show false=true from h)
  subst e1
  show SimAt Γ AnyRel (eval (.Constant (.str (Str.ofString x)) 0 (dp L p)) Γ.X.env) (fun Q E=>Q () st) s R
  rw [arm_eval_Constant]
  exact .leaf (a:=()) P fun k=>wpAny_mkText (k _ _ trivial)
 | none =>
  have e1:eval (.JoinedStr (toFs L Γ.X.names fs) (dp L p)) Γ.X.env=joinParts Str.empty (evalEach (toFs L Γ.X.names fs) Γ.X.env):=by
   cases fs with
   | nil=>exact nomatch (show false=true from and_l (and_l h))
   | txt _ _ r=>cases r <;> first|rfl|exact nomatch (show false=true from and_l (and_l h))
   | fmt _ _ r=>cases r <;> first|rfl|exact nomatch (show false=true from and_l (and_l h))
  show SimAt Γ AnyRel (eval (.JoinedStr (toFs L Γ.X.names fs) (dp L p)) Γ.X.env) _ s R
  rw [e1]
  have hl:=Nat.le_of_ble_eq_true (and_r (and_l h))
  exact sim_parts fs Str.empty Γ s R st O P (and_r h) (by show 0 + _<=_;omega)
theorem msg_star {t:Option String} {fs:AFs} {p:Nat} {N:List String} {env:Env}:starEach [msgE L N t fs p] env=[(false,eval (msgE L N t fs p) env)]:=by cases t <;> rfl
inductive OneV (h:Heap) (R:Reg) (vs:List Value) (u:Unit):Prop
 | mk (v:Value) (e:vs=[v])
theorem ss_raise {c ps pn pc p:Nat} {t:Option String} {fs:AFs}:SS L n C (.raise c t fs ps pn pc p):=fun Γ s R st O FX P hx=>by
 have g:=gOk_of (and_l hx)
 show SimAt Γ FlRel (standAt (dp L p) >>= fun _=>raiseStmt Γ.X.env (some (eval (.Call (.Name (Str.ofString (nm c)) (dp L pn)) [msgE L Γ.X.names t fs ps] [] (dp L pc)) Γ.X.env >>= fun v=>standAt (dp L p) >>= fun _=>pure v)) none) (fun Q E=>T.isExc c=true/\vF T C fs st (fun st=>E c st) E) s R
 refine .standAt (.and (p:=fun _ E=>vF T C fs st (fun st=>E c st) E) fun hc Q E hp=>?_)
 have X:=O.st.exc c hc
 show wpP _ Γ.A ((eval (.Call (.Name (Str.ofString (nm c)) (dp L pn)) [msgE L Γ.X.names t fs ps] [] (dp L pc)) Γ.X.env >>= fun v=>standAt (dp L p) >>= fun _=>pure v) >>= fun xv=>raiseStmt Γ.X.env (some (pure xv)) none) _ _ s
 refine wpP_bind (wpP_bind ?_)
 rw [arm_eval_Call_Name']
 refine wpP_bind (wpP_globalV P O.fx O.st.g g.k g.d X.g ?_)
 unfold callWith
 have hsp:SimAt Γ OneV (spliced (backTo (dp L pc) (starEach [msgE L Γ.X.names t fs ps] Γ.X.env))) (fun Q E=>vF T C fs st (fun st=>Q () st) E) s R:=by
  rw [msg_star]
  show SimAt Γ OneV (spliced [(false,eval (msgE L Γ.X.names t fs ps) Γ.X.env)]) _ s R
  rw [spliced]
  refine SimAt.bind (g:=fun u st Q _=>Q u st) (sim_msg O P (and_r hx)) fun v s1 u st1 R1 af1 _=>?_
  simp only [Bool.false_eq_true,if_false]
  exact .pureBind fun Q E hp=>wpP_bind (wpP_holding (wpP_pure (wpP_pure ⟨u,st1,R1,hp,.refl af1.pre,v,rfl⟩)))
 have hst3:(backTo (dp L pc) (starEach [msgE L Γ.X.names t fs ps] Γ.X.env)).any (·.1)=false:=by rw [msg_star];rfl
 refine wpP_bind (wpP_holding (wpP_mono (sim_evalArgs (f:=.ref (CA c)) hst3 hsp (fun _ st=>E c st) E hp) ?_ fun _ _ x=>x))
 rintro a s1 ⟨u,st1,R1,hq,af,hkw,v,hv⟩
 obtain ⟨apos,akw⟩:=a
 obtain rfl:akw=[]:=hkw
 obtain rfl:apos=[v]:=hv
 refine wpP_bind (wpP_standAt ?_)
 simp only [hst3]
 refine wpP_bind (wpP_of (wpAny_keeper_exc X.ok af.pre.sat.keep ?_))
 refine wpP_bind (wpP_of (wpAny_make_exc X.ok af.pre.sat.keep (by simp;decide) fun h' ee M=>?_))
 refine wpP_bind (wpP_holding (wpP_of (wpAny_point (wpP_pure ?_))))
 refine wpP_bind (wpP_standAt (wpP_pure ?_))
 obtain ⟨hkeep,hnew,t,ht,_,_⟩:=M
 exact wpP_of (wpAny_raise_made (s:={ s1 with heap:=h' }) X.ok (fun b o e=>hkeep _ _ (af.pre.sat.keep b o e)) O.room.handled ht
  ⟨c,st1,R1,hq,af.trans (After.keepAll (tk:=s1.toks) af.pre hkeep),ee,_,_,rfl,get_none af.step.live hnew,ht,rfl,rfl,by simp,.no rfl⟩)
theorem sim_hv {i p1 p2 p3:Nat} (P:Pre Γ s R st):SimAt Γ VRel (eval (.Tuple [.Constant (.int (i:Int)) 0 (dp L p1),.List [] (dp L p2)] 0 (dp L p3)) Γ.X.env) (fun Q _=>Q (.tup [.int (i:Int),.ref st.H.length]) ⟨st.fr,st.H++[.list []]⟩) s R:=by
 rw [arm_eval_Tuple]
 show SimAt Γ VRel (standAt (dp L p3) >>= fun _=>spliced [(false,eval (.Constant (.int (i:Int)) 0 (dp L p1)) Γ.X.env),(false,eval (.List [] (dp L p2)) Γ.X.env)] >>= newTuple) _ s R
 have c1:SimAt Γ VRel (eval (.Constant (.int (i:Int)) 0 (dp L p1)) Γ.X.env) (fun Q _=>Q (.int (i:Int)) st) s R:=by rw [arm_eval_Constant];exact .leaf P fun k=>wpAny_mkInt (k _ _ (VRel.int _ _))
 refine .standAt fun Q E hp=>SimAt.bind (rel:=VRels) (rel':=VRel) (p:=fun Q _=>Q [AV.int (i:Int),AV.ref st.H.length] ⟨st.fr,st.H++[.list []]⟩) (g:=fun vs st (Q:KV) _=>Q (.tup vs) st/\vs.length<=LIM) ?_ ?_ Q E ⟨hp,(by show 2<=LIM;decide)⟩
 ·refine sim_spliced (p:=fun Q _=>Q (AV.int (i:Int)) st) (q:=fun a st Q _=>Q [a,.ref st.H.length] ⟨st.fr,st.H++[.list []]⟩) c1 fun v1 s1 a st1 R1 af1 r1=>?_
  refine SimAt.bind (rel:=VRels) (p:=fun Q _=>Q [AV.ref st1.H.length] ⟨st1.fr,st1.H++[.list []]⟩) (g:=fun vs st Q _=>Q (a::vs) st) (SimAt.holding ?_) fun v2 s2 b st2 R2 af2 r2=>.ok af2.pre (VRels.cons (r1.mono (af2.keeps9 af1.pre)) r2)
  refine sim_spliced (p:=fun Q _=>Q (AV.ref st1.H.length) ⟨st1.fr,st1.H++[.list []]⟩) (q:=fun v st Q _=>Q [v] st) ?_ fun v2 s2 b st2 R2 af2 r2=>?_
  ·rw [arm_eval_List]
   exact .standAt (.pureBind (sim_newList af1.pre VRels.nil (Nat.zero_le _)))
  ·exact fun Q E hp=>wpP_bind (wpP_holding (wpP_pure (wpP_pure ⟨_,_,R2,hp,.refl af2.pre,.cons r2 .nil⟩)))
 ·exact fun vs s1 a st1 R1 af r Q E hp=>sim_newTuple af.pre r hp.2 Q E hp.1
theorem codeP_suite {prog:Program} {w:World} {e:Value} {b₀:Stmt} {body:List Stmt} {pos:Pos} {env:Env} {A:Around} {Rr:Result->Shared->Prop}
  (h:wpP (model prog w) A (setFlight e none) (fun _ s₁=>wpP (model prog w) A (execs (b₀::body) env) (fun f s₂=>Rr (.ok f) s₂) (fun _ _=>False) s₁) (fun _ _=>False) s) :
  codeP (model prog w) A (.handlers e [.ExceptHandler none none (b₀::body) pos] env) Rr s:=by
 refine codeP_of_tree ?_ rfl
 show wpP _ A (do return Fin.done (← (handleWith e env [.ExceptHandler none none (b₀::body) pos]).onRaise (fun x=>do noteFrame x env;theTreesLotGoes x))) _ _ s
 refine wpP_bind (wpP_onRaise ?_)
 unfold handleWith
 exact wpP_bind (wpP_standAt (wpP_bind (wpP_mono h (fun _ s₁ h₁=>wpP_mono h₁ (fun f s₂ h₂=>wpP_pure h₂) fun _ _ x=>x.elim) fun _ _ x=>x.elim)))
theorem wp_handle {c:Nat} {e:Addr} {v3:Value} {Q:Fl->St->Prop} {E:KX} (O:Ok Γ n C) (FX:FnFx Γ.X) (P₀:Pre Γ s₀ R₀ st₀) (af:After Γ s₀ R₀ s R st) (tr:Trc s₀.heap s.heap e (CA c) v3) (hs:List HRow) :
  (hs.all fun h=>isG Γ.X.env.scope.names h.c)=true->handle T c st Q E hs->wpP Γ.M Γ.A (handleBy (.ref e) Γ.X.env (hs.map (toH L))) (Lift Γ FlRel s₀ R₀ Q) (LiftE Γ s₀ R₀ E) s:=by
 obtain ⟨T',oe,vs,oT,ts,n0,nT,ne,g1,g2,g3,g4,g5,g6,g7⟩:=id tr
 induction hs with
 | nil =>
  intro _ hp
  show wpP _ Γ.A (PySem.passOn "try.no-clause-matches" (.ref e) Γ.X.env) _ _ s
  unfold PySem.passOn
  refine wpP_bind (wpP_of (wpAny_field g1 g3 g4 ?_))
  rw [if_neg (by simp)]
  exact wpP_bind (wpP_of (flight_station (fl:=Γ.X.env.frame) O.fx P₀ af tr fun h' af2 tr2=>wpP_throw ⟨c,st,R,hp,af2,tr2.exc (.inr (by rw [FX.frame];exact ⟨_,rfl,rfl⟩))⟩))
 | cons d r ih =>
  intro hx hp
  rw [List.all_cons] at hx
  obtain ⟨hc1,hc2,hp⟩:=hp
  have g:=gOk_of (and_l hx)
  have LT:Looks Γ.M s.heap (typeOf (.ref e)) (.ref (CA c)):=g2▸(Looks.ld g1).andThen .now
  have test:∀ {Q:Flow->Shared->Prop} {E:Value->Shared->Prop},Q (if T.sub c d.c then .brk else .next) s->wpAny Γ.M Γ.A (runOwn (.handlers (.ref e) [.ExceptHandler (some (.Name (Str.ofString (nm d.c)) (dp L d.pn))) none [] (dp L d.p)] Γ.X.env) Γ.X.env (some (.ref e))) Q E s:=fun hq=>by
   refine wpAny_runOwn (codeAny_handlers_test ?_)
   refine Name_function_global O.fx.kind g.k (loadGlobal_global (O.fx.globals▸O.st.g.keeps af.pre.sat.keep) (O.st.exc d.c hc2).g ?_) g.d
   exact (exm_one (inB O.st.frag af.pre) LT (O.st.sub c d.c hc1 hc2)).here hq
  show wpP _ Γ.A (handleBy (.ref e) Γ.X.env (toH L d::r.map (toH L))) _ _ s
  rw [show toH L d=.ExceptHandler (some (.Name (Str.ofString (nm d.c)) (dp L d.pn))) none [.Return (some (.Tuple [.Constant (.int (d.i:Int)) 0 (dp L d.pi),.List [] (dp L d.pl)] 0 (dp L d.pt))) (dp L d.pr)] (dp L d.p) from rfl,handleBy]
  refine wpP_bind (wpP_holding (wpP_of (test ?_)))
  cases hb:T.sub c d.c with
  | false =>
   rw [hb] at hp
   refine wpP_bind (wpP_pure ?_)
   dsimp only
   rw [if_pos (by rfl)]
   exact ih (and_r hx) hp
  | true =>
   rw [hb] at hp
   simp only [if_true]
   refine wpP_bind (wpP_pure ?_)
   rw [if_neg (by decide)]
   refine wpP_bind (wpP_holding ?_)
   unfold runOwn
   refine wpP_onRaise (wpP_run (codeP_suite ?_))
   refine wpP_of (flight_station (Γ:=⟨Γ.G,Γ.A.mark (some (.ref e)),Γ.X⟩) (fl:=none) O.fx (P₀.around rfl rfl) (af.around rfl rfl) tr fun h' af2 tr2=>?_)
   rw [execs]
   show wpP _ _ ((standAt (dp L d.pr) >>= fun _=>eval (.Tuple [.Constant (.int (d.i:Int)) 0 (dp L d.pi),.List [] (dp L d.pl)] 0 (dp L d.pt)) Γ.X.env >>= fun v=>pure (Flow.ret v)) >>= fun f=>match f with|.next=>execs [] Γ.X.env|f=>pure f) _ _ _
   refine wpP_bind (wpP_bind (wpP_standAt (wpP_bind (wpP_mono (sim_hv (Γ:=⟨Γ.G,Γ.A.mark (some (.ref e)),Γ.X⟩) af2.pre (fun v st=>Q (.ret v) st) (fun _ _=>False) hp) ?_ fun _ _ x=>x.casesOn fun _ _ _ h=>h.elim))))
   rintro v s3 ⟨a,st3,R3,hq,af3,r3⟩
   exact wpP_pure (wpP_pure (wpP_pure ⟨_,_,R3,hq,(af2.trans af3).around rfl rfl,.ret r3⟩))
theorem ss_try {b:ASs} {hs:List HRow} {p:Nat} (hb:SSs L n C b):SS L n C (.try b hs p):=fun Γ s R st O FX P hx=>by
 show SimAt Γ FlRel (exec (.Try (toSs L Γ.X.names b) (hs.map (toH L)) [] [] (dp L p)) Γ.X.env) (fun Q E=>vSs T C b st Q fun c st=>handle T c st Q E hs) s R
 have h1:=and_l hx
 rw [arm_exec_Try]
 refine .standAt fun Q E hp=>?_
 unfold tryStmt
 simp only [List.isEmpty_nil,if_true]
 refine wpP_bind (wpP_attempt (wpP_mono (hb _ s R st O FX P (and_l h1) _ _ hp) (fun f s1 x=>?_) ?_))
 ·obtain ⟨fl,st1,R1,hq,af,rl⟩:=x
  cases rl with
  | next=>exact wpP_pure ⟨_,st1,R1,hq,af,.next⟩
  | ret r=>exact wpP_pure ⟨_,st1,R1,hq,af,.ret r⟩
 ·rintro x s1 ⟨c,st1,R1,hq,af,ex⟩
  have hemp:(hs.map (toH L)).isEmpty=false:=by cases hs with
   | nil=>exact nomatch (show false=true from and_r hx)
   | cons a b=>rfl
  dsimp only
  refine wpP_bind (wpP_of (note_station FX O.room.frames O.fx P af ex fun h1' ee hx' af1 tr1=>?_))
  subst hx'
  simp only [hemp,Bool.false_eq_true,if_false,Bool.false_and]
  exact wpP_bind (wpP_of (flight_station (s':={ s1 with heap:=h1' }) (fl:=none) O.fx P af1 tr1 fun h2' af2 tr2=>wp_handle O FX P af2 tr2 hs (and_r h1) hq))
theorem sound_ss (as:ASs):SSs L n C as:=ASs.rec (motive_1:=SS L n C) (motive_2:=SSs L n C)
 (fun e p=>ss_expr) (fun e p=>ss_ret) (fun p=>ss_ret0) (fun t e p=>ss_asg) (fun i op e p q=>ss_aug) (fun i a op e p q r=>ss_augAttr) (fun c b o p hb ho=>ss_ite hb ho) (fun c b p hb=>ss_whl hb)
 (fun t it b p hb=>ss_for hb) (fun c t fs p q r x=>ss_raise) (fun b hs p hb=>ss_try hb) sss_nil (fun s ss h hs=>sss_cons h hs) as
end
theorem sound_call {G:Gx} (S:Stat G) (n:Nat):CallOk G n (callN T n):=by
 induction n with
 | zero=>exact fun A X s R st c f fd as vals hF hr K P hv Q E hp=>hp.elim
 | succ n ih =>
  intro A X s R st c f fd as vals hF hr K P hv Q E hp
  obtain ⟨d,F,ok,okn⟩:=(S.fn c f fd hF).ok
  have hp:optP (T.fn c f) fun fd=>vCall T (callN T n) fd as st.H (fun v H=>Q v ⟨st.fr,H⟩) fun e H=>E e ⟨st.fr,H⟩:=hp
  rw [hF] at hp
  exact sim_callF (Γ:=⟨G,A,X⟩) hr S.lim P K.enter F hv (fun A' X' s' R' st' hr' K' FX' P' e1 e2=>sound_ss fd.body _ s' R' st' ⟨S,ih,hr',K',e1▸okn⟩ FX' P' (by show okSs fd.line X'.names X'.env.scope.names fd.body=true;rw [e1,e2];exact ok)) Q E hp
end Ab
end
section
namespace Ab
open PySem PySem.W PySem.Calls PyProof.Rows PyProof.Rows.TI
noncomputable def fdAt (K:Frag) (a:Addr):Option FuncData:=match K.lookup a with
 | some ⟨_,_,.func d,_⟩=>some d
 | _=>none
noncomputable def dAt (K:Frag) (r:FRow):FuncData:=(fdAt K r.a).getD default
noncomputable def codeAt (K:Frag) (cd:Value) (q:Str):Bool:=match cd with
 | .ref c=>(match K.lookup c with
  | some ⟨_,_,.fields vs,_⟩=>(match (vs[1]?:Option Value) with
   | some (Value.str q' _)=>q==q'
   | _=>false)
  | _=>false)
 | _=>false
noncomputable def dfltsAt (K:Frag) (d:FuncData):List Value:=match d.defaults with
 | .ref a=>(match K.lookup a with
  | some ⟨_,_,.seq vs _,_⟩=>vs.toList
  | _=>[])
 | _=>[]
noncomputable def isIntV (v:Value) (a:AV):Bool:=match v,a with
 | .int i _,.int j=>i==j
 | _,_=>false
noncomputable def intsV:List Value->List AV->Bool
 | [],as=>as.isEmpty
 | v::vs,as=>List.casesOn as false fun a as=>isIntV v a&&intsV vs as
noncomputable def rowChk (K:Frag) (r:FRow):Bool:=bif Nat.beq r.c 0 then nsIn K mainGlobals (Str.ofString (nm r.f))==some (some (.ref r.a)) else
 Nat.blt r.f NM&&plainGet K (CA r.c) (Str.ofString (nm r.f))&&findIn K (.ref (CA r.c)) (Str.ofString (nm r.f))==some (some (.ref r.a))&&isFn K (.ref r.a)
noncomputable def fn1 (K:Frag) (r:FRow):Bool:=(fdAt K r.a).isSome&&codeAt K (dAt K r).code (dAt K r).qualname&&!(dAt K r).scope.isCoroutine&&!(dAt K r).scope.isGenerator&&(dAt K r).scope.kind==.function&&(dAt K r).closure.isEmpty &&
 (dAt K r).globals==mainGlobals&&(dAt K r).builtins==builtinsNs
noncomputable def fn2 (K:Frag) (r:FRow):Bool:=decide r.fd.names.Nodup&&Nat.ble r.fd.np r.fd.names.length &&
 (r.fd.names.take r.fd.np).all (fun x=>(dAt K r).scope.names.lookup (Str.ofString x)==some .local || (dAt K r).scope.names.lookup (Str.ofString x)==some .cell) &&
 decide (((dAt K r).scope.names.map (·.1)).Nodup)&&(dAt K r).scope.names.all (fun x=>x.2 != .free)
noncomputable def fn3 (K:Frag) (r:FRow):Bool:=okSs r.fd.line r.fd.names (dAt K r).scope.names r.fd.body&&okN r.fd.names&&keepIn K (.ref r.a)&&rowChk K r&&intsV (dfltsAt K (dAt K r)) r.fd.dflts
noncomputable def fnBind (K:Frag) (S:Setting) (v:Nat->Value) (r:FRow) (j:Nat):Option (List (Str×Value)):=peek K S (bindArgs (dAt K r) ⟨(List.range (r.fd.np - j)).map v,[]⟩)
noncomputable def fnBound (K:Frag) (v:Nat->Value) (r:FRow) (j:Nat):Option (List (Str×Value)):=some (((r.fd.names.take r.fd.np).map Str.ofString).zip ((List.range (r.fd.np - j)).map v++(dfltsAt K (dAt K r)).drop (r.fd.dflts.length - j)))
noncomputable def fieldChk (K:Frag) (C:Addr) (a:Nat):Bool:=Nat.blt a NM&&plainGet K C (Str.ofString (nm a))&&hasDictIn K C&&(match findIn K (.ref C) (Str.ofString (nm a)) with
  | some attr=>noGet K attr
  | none=>false)&&findIn K (.ref C) "__setattr__"==some (some (.builtin "object.__setattr__"))&&plainOver K C&&takerIn K C (Str.ofString (nm a))==some none
noncomputable def clsChk (K:Frag) (r:CRow):Bool:=(T.fn r.c 1).isSome&&nsIn K mainGlobals (Str.ofString (nm r.c))==some (some (.ref r.C))&&makesIn K r.C&&findIn K (.ref r.C) "__init__"==some (some (.ref (fa r.c 1))) &&
 typeIn K (.ref (fa r.c 1))==some (.type "function")&&keepIn K (.ref r.C)&&r.fields.all fun a=>fieldChk K r.C a
noncomputable def glbChk (K:Frag) (p:Nat×Int):Bool:=match nsIn K mainGlobals (Str.ofString (nm p.1)) with
 | some (some (.int i _))=>i==p.2
 | _=>false
noncomputable def primNames:List String:=["len","bytes","bytearray","tuple","sum","min","max","range","sorted","isinstance"]
noncomputable def strKey (e:DictEntry):Bool:=match e.key with
 | .str _ _=>true
 | _=>false
noncomputable def nsQuiet (K:Frag) (N:Addr):Bool:=match K.lookup N with
 | some ⟨_,_,.dict es _,_⟩=>es.toList.all strKey&&(es.toList.find? (·.key.isStr "__init__")).isNone
 | _=>false
def excTop:List Value:=[.type "Exception",.type "BaseException",.type "object"]
noncomputable def tailChk (K:Frag):List Value->Bool
 | []=>false
 | v::tl=>v::tl==excTop || match v with
  | .ref A=>(match K.lookup A with
   | some ⟨_,_,.cls cd,_⟩=>nsQuiet K cd.ns&&tailChk K tl
   | _=>false)
  | _=>false
noncomputable def excChk (K:Frag) (C:Addr):Bool:=match K.lookup C with
 | some ⟨c,_,.cls cd,sl⟩=>c==.type "type"&&cd.mro.head?==some (.ref C)&&!cd.hasDel&&(match sl.toList with
   | [_,_,_,_,k4,_]=>k4==some (.builtin "Exception.__new__")
   | _=>false)&&nsQuiet K cd.ns&&tailChk K cd.mro.tail&&cd.mro.tail.contains (.type "BaseException")
 | _=>false
structure StatIn (K:Frag):Prop where
 f1:rows.all (fn1 K)=true
 f2:rows.all (fn2 K)=true
 f3:rows.all (fn3 K)=true
 body:rows.map (fun r=>(dAt K r).body)=rows.map fun r=>.stmts (toSs r.fd.line r.fd.names r.fd.body)
 bind:∀ S v,rows.map (fun r=>(List.range (r.fd.dflts.length+1)).map (fnBind K S v r))=rows.map fun r=>(List.range (r.fd.dflts.length+1)).map (fnBound K v r)
 cls:crows.all (clsChk K)=true
 glb:glbs.all (glbChk K)=true
 prim:primNames.all (fun x=>nsIn K mainGlobals (Str.ofString x)==some none)=true
 exc:erows.all (fun r=>CA r.c==r.C&&nsIn K mainGlobals (Str.ofString (nm r.c))==some (some (.ref r.C))&&excChk K r.C)=true
 sub:erows.all (fun a=>erows.all fun b=>exmOne K (.ref a.C) (.ref b.C)==some (T.sub a.c b.c))=true
theorem map_at {α β:Type} {f g:α->β} {l:List α} (h:l.map f=l.map g) {x:α} (hx:x∈l):f x=g x:=by
 induction l with
 | nil=>cases hx
 | cons y r ih =>
  have h:=List.cons.inj h
  exact (List.mem_cons.mp hx).elim (fun q=>q▸h.1) fun hx=>ih h.2 hx
theorem row_some {l:List FRow} {c f:Nat} {r:FRow} (h:rowOf l c f=some r):r∈l/\r.c=c/\r.f=f:=by
 induction l with
 | nil=>cases h
 | cons y l ih =>
  rw [rowOf] at h
  cases hb:Nat.beq y.c c&&Nat.beq y.f f with
  | true=>rw [hb] at h;cases h;exact ⟨.head _,Nat.eq_of_beq_eq_true (Bool.and_eq_true_iff.mp hb).1,Nat.eq_of_beq_eq_true (Bool.and_eq_true_iff.mp hb).2⟩
  | false=>rw [hb] at h;have q:=ih h;exact ⟨.tail _ q.1,q.2⟩
theorem crow_some {l:List CRow} {c:Nat} {r:CRow} (h:crowOf l c=some r):r∈l/\r.c=c:=by
 induction l with
 | nil=>cases h
 | cons y l ih =>
  rw [crowOf] at h
  cases hb:Nat.beq y.c c with
  | true=>rw [hb] at h;cases h;exact ⟨.head _,Nat.eq_of_beq_eq_true hb⟩
  | false=>rw [hb] at h;have q:=ih h;exact ⟨.tail _ q.1,q.2⟩
theorem erow_some {l:List ERow} {c:Nat} {r:ERow} (h:erowOf l c=some r):r∈l/\r.c=c:=by
 induction l with
 | nil=>cases h
 | cons y l ih =>
  rw [erowOf] at h
  cases hb:Nat.beq y.c c with
  | true=>rw [hb] at h;cases h;exact ⟨.head _,Nat.eq_of_beq_eq_true hb⟩
  | false=>rw [hb] at h;have q:=ih h;exact ⟨.tail _ q.1,q.2⟩
theorem glb_some {l:List (Nat×Int)} {x:Nat} {i:Int} (h:glbOf l x=some i):(x,i)∈l:=by
 induction l with
 | nil=>cases h
 | cons y l ih =>
  rw [glbOf] at h
  cases hb:Nat.beq y.1 x with
  | true=>rw [hb] at h;cases h;rw [<-Nat.eq_of_beq_eq_true hb];exact .head _
  | false=>rw [hb] at h;exact .tail _ (ih h)
section
variable {K:Frag} {B:Heap} {mg mb:Str->Option Value}
theorem defAt_of (hK:K.In B) {r:FRow} (h:(fdAt K r.a).isSome=true):DefAt B r.a (dAt K r):=by
 obtain ⟨d,e⟩:=Option.isSome_iff_exists.mp h
 rw [show dAt K r=d from by unfold dAt;rw [e];rfl]
 unfold fdAt at e
 split at e
 ·rename_i e';cases e;exact ⟨_,hK _ _ e',rfl⟩
 ·cases e
theorem code_of (hK:K.In B) {cd:Value} {q:Str} (h:codeAt K cd q=true):B.CodeRec cd q:=by
 unfold codeAt at h
 split at h
 ·rename_i c
  split at h
  ·rename_i cc dd vs sl e
   split at h
   ·rename_i q' t hv
    rw [beq_iff_eq.mp h]
    exact ⟨c,_,vs,t,rfl,hK _ _ e,rfl,hv⟩
   ·cases h
  ·cases h
 ·cases h
theorem ints_v {h0:Heap} {R:Reg}:∀ {vs:List Value} {as:List AV},intsV vs as=true->VRels h0 R vs as:=fun {vs}=>by
 induction vs with
 | nil=>intro as h;rw [List.isEmpty_iff.mp h];exact .nil
 | cons v vs ih =>
  intro as h
  cases as with
  | nil=>cases h
  | cons a as =>
   have q:VRel h0 R v a:=by
    have h:=(Bool.and_eq_true_iff.mp h).1
    unfold isIntV at h
    split at h
    ·rw [beq_iff_eq.mp h];exact .int _ _
    ·cases h
   exact .cons q (ih (Bool.and_eq_true_iff.mp h).2)
theorem drop_rel {h:Heap} {R:Reg} {vs:List Value} {as:List AV} (r:VRels h R vs as) (n:Nat):VRels h R (vs.drop n) (as.drop n) :=
 ⟨by rw [List.length_drop,List.length_drop,r.len],fun i v a e1 e2=>by rw [List.getElem?_drop] at e1 e2;exact r.ix _ _ _ e1 e2⟩
theorem range_map (vals:List Value):(List.range vals.length).map (fun i=>vals.getD i .none)=vals:=by
 refine List.ext_getElem? fun i=>?_
 rw [List.getElem?_map]
 by_cases hi:i < vals.length
 ·rw [List.getElem?_range hi,List.getElem?_eq_getElem hi,Option.map_some,List.getD_eq_getElem?_getD,List.getElem?_eq_getElem hi];rfl
 ·rw [List.getElem?_eq_none (by rw [List.length_range];exact Nat.not_lt.mp hi),List.getElem?_eq_none (Nat.not_lt.mp hi)];rfl
theorem or_k {o:Option NameKind} (h:(o==some .local || o==some .cell)=true):o=some .local\/o=some .cell:=((Bool.or_eq_true _ _).mp h).imp beq_iff_eq.mp beq_iff_eq.mp
theorem bind_of (hK:K.In B) (S:StatIn K) {r:FRow} (hr:r∈rows) (hd:intsV (dfltsAt K (dAt K r)) r.fd.dflts=true) (vals:List Value) (h1:vals.length<=r.fd.np) (h2:r.fd.np<=vals.length + r.fd.dflts.length):BindsOk B r.fd (dAt K r) vals:=by
 refine ⟨(dfltsAt K (dAt K r)).drop (r.fd.dflts.length - (r.fd.np - vals.length)),fun h R=>drop_rel (ints_v hd) _,fun s hk=>kp_binds (hK.keeps hk) fun S'=>?_⟩
 have q:=map_at (map_at (S.bind S' fun i=>vals.getD i .none) hr) (List.mem_range.mpr (Nat.lt_succ_of_le (Nat.sub_le_iff_le_add'.mpr h2)))
 unfold fnBind fnBound at q
 rwa [Nat.sub_sub_self h1,range_map] at q
theorem fnOk_of (hK:K.In B) (S:StatIn K) {r:FRow} (hr:r∈rows):FnOk B r.a r.fd (dAt K r):=by
 have a1:=List.all_eq_true.mp S.f1 r hr
 have a2:=and_l a1
 have a3:=and_l a2
 have a4:=and_l a3
 have a5:=and_l a4
 have a6:=and_l a5
 have a7:=and_l a6
 have b1:=List.all_eq_true.mp S.f2 r hr
 have b2:=and_l b1
 have b3:=and_l b2
 have b4:=and_l b3
 exact ⟨defAt_of hK (and_l a7),code_of hK (and_r a7),map_at S.body hr,not_t (and_r a6),not_t (and_r a5),beq_iff_eq.mp (and_r a4),List.isEmpty_iff.mp (and_r a3),beq_iff_eq.mp (and_r a2),beq_iff_eq.mp (and_r a1),
  of_decide_eq_true (and_l b4),Nat.le_of_ble_eq_true (and_r b4),fun x hx=>or_k (List.all_eq_true.mp (and_r b3) x hx),of_decide_eq_true (and_r b2),fun x hx q=>(by have:=List.all_eq_true.mp (and_r b1) x hx;rw [q] at this;cases this),
  bind_of hK S hr (and_r (List.all_eq_true.mp S.f3 r hr))⟩
theorem mg_none {n:Str} (X:K.In B) (G:B.Ns mainGlobals mg) (e:nsIn K mainGlobals n=some none):mg n=none:=by
 obtain ⟨o,es,ep,ho,hd,_,hf⟩:=G
 unfold nsIn at e
 split at e
 ·rename_i c d es' n' sl q
  have:=inj_some ho (X _ _ q)
  subst this
  cases hd
  split at e
  ·cases e
  ·rename_i he
   rw [<-hf]
   unfold nsFind findBy
   rw [<-Array.find?_toList,he]
   rfl
 ·cases e
theorem fieldOk_of {C:Addr} {a:Nat} (h:fieldChk K C a=true):FieldOk K C a:=by
 have h1:=and_l h
 have h2:=and_l h1
 have h3:=and_l h2
 have h4:=and_l h3
 have h5:=and_l h4
 refine ⟨Nat.le_of_ble_eq_true (and_l h5),and_r h5,and_r h4,?_,beq_iff_eq.mp (and_r h2),and_r h1,beq_iff_eq.mp (and_r h)⟩
 have q:=and_r h3
 split at q
 ·rename_i attr he;exact ⟨attr,he,q⟩
 ·cases q
theorem boot_prim:∀ p:Prim,bootBuiltins (Str.ofString p.name)=some (primVal p):=fun p=>by cases p <;> kernel_rfl
theorem boot_isb:bootBuiltins (Str.ofString "isinstance")=some (.builtin "isinstance"):=by kernel_rfl
theorem nsQuiet_of {N:Addr} (hK:K.In B) (x:nsQuiet K N=true):∃ m,B.Ns N m/\m "__init__"=none:=by
 unfold nsQuiet at x
 split at x
 ·rename_i c dd es n sl e
  refine ⟨nsFind es,⟨_,es,n,hK _ _ e,rfl,fun en hen=>?_,fun _=>rfl⟩,?_⟩
  ·have:=List.all_eq_true.mp (and_l x) en (Array.mem_toList_iff.mpr hen)
   unfold strKey at this
   split at this
   ·rename_i s t hq;exact ⟨s,t,hq⟩
   ·cases this
  ·unfold nsFind findBy
   rw [<-Array.find?_toList,Option.isNone_iff_eq_none.mp (and_r x)]
   rfl
 ·cases x
theorem tail_of (hK:K.In B) (l:List Value):tailChk K l=true->OwnTail B excTop l:=by
 induction l with
 | nil=>exact fun x=>nomatch x
 | cons v tl ih =>
  intro x
  refine ((Bool.or_eq_true _ _).mp x).elim (fun x=>eq_of_beq x▸.base) fun x=>?_
  split at x
  ·split at x
   ·rename_i c dd cd sl e
    obtain ⟨m,hm,hi⟩:=nsQuiet_of hK (and_l x)
    exact .own (hK _ _ e) hm hi (ih (and_r x))
   ·cases x
  ·cases x
theorem excOk_of {C:Addr} (hK:K.In B) (x:excChk K C=true):ExcOk B C:=by
 unfold excChk at x
 split at x
 ·rename_i c dd cd sl e
  have x1:=and_l x
  have x2:=and_l x1
  have x3:=and_l x2
  have x4:=and_l x3
  have x5:=and_l x4
  obtain rfl:=eq_of_beq (and_l x5)
  obtain ⟨m,hm,hi⟩:=nsQuiet_of hK (and_r x2)
  have y:=and_r x3
  split at y
  ·rename_i k0 k1 k2 k3 k4 k5 hs
   obtain rfl:=eq_of_beq y
   obtain ⟨sl⟩:=sl
   subst hs
   obtain ⟨nm,bs,mro,ns,qn,hd,sn,sub,ab,col,del⟩:=cd
   cases mro with
   | nil=>exact nomatch (show false=true from and_r x5)
   | cons v bm =>
    obtain rfl:=Option.some.inj (eq_of_beq (and_r x5))
    obtain rfl:del=false:=not_t (and_r x4)
    exact ⟨⟨nm,qn,ns,bs,bm,hd,sn,sub,ab,col,dd,k0,k1,k2,k3,k5,m,hK _ _ e,hm,hi,tail_of hK _ (and_r x1),and_r x⟩⟩
  ·cases y
 ·cases x
theorem isSome_row {c f:Nat} {fd:FD} (h:T.fn c f=some fd):∃ r∈rows,r.c=c/\r.f=f/\r.fd=fd/\fa c f=r.a:=by
 obtain ⟨r,h1,h2⟩:=Option.map_eq_some_iff.mp h
 have q:=row_some h1
 exact ⟨r,q.1,q.2.1,q.2.2,h2,by unfold fa;rw [h1];rfl⟩
theorem fin3 (S:StatIn K) {r:FRow} (hr:r∈rows):rowChk K r=true:=and_r (and_l (List.all_eq_true.mp S.f3 r hr))
theorem prim_in (p:Prim):p.name∈primNames/\Str.ofString p.name≠("__name__":Str):=by cases p <;> exact ⟨by decide,by decide +kernel⟩
theorem crow_of {c:Nat} (h:T.cls c=true):∃ r∈crows,r.c=c/\CA c=r.C:=by
 obtain ⟨r,e⟩:=Option.isSome_iff_exists.mp h
 have q:=crow_some e
 exact ⟨r,q.1,q.2,by unfold CA;rw [e]⟩
theorem erow_of {c:Nat} (h:T.isExc c=true):∃ r∈erows,r.c=c:=by
 obtain ⟨r,e⟩:=Option.isSome_iff_exists.mp h
 have q:=erow_some e
 exact ⟨r,q.1,q.2⟩
theorem stat_of {prog:Program} {w:World} (hK:K.In B) (hg:B.Ns mainGlobals mg) (hb:B.Ns builtinsNs mb) (hl:B.NoLimit) (hboot:∀ x:Str,x≠"__name__"->mb x=bootBuiltins x) (S:StatIn K):Stat ⟨prog,w,B,K,mg,mb⟩ where
 frag:=hK
 g:=hg
 b:=hb
 lim:=hl
 glb x i h:=by
  have q:=List.all_eq_true.mp S.glb _ (glb_some h)
  unfold glbChk at q
  split at q
  ·rename_i j t e;obtain rfl:j=i:=beq_iff_eq.mp q;exact ⟨t,mg_of hK hg e⟩
  ·cases q
 fn c f fd h:=by
  obtain ⟨r,hr,rfl,rfl,rfl,e⟩:=isSome_row h
  have q:=and_l (and_l (List.all_eq_true.mp S.f3 r hr))
  exact ⟨⟨dAt K r,e▸fnOk_of hK S hr,and_l (and_l q),and_r (and_l q)⟩,e▸and_r q⟩
 fnG f fd h:=by
  obtain ⟨r,hr,hc,rfl,rfl,e⟩:=isSome_row h
  have q:=fin3 S hr
  unfold rowChk at q
  rw [hc] at q
  exact e▸mg_of hK hg (beq_iff_eq.mp q)
 prim p:=⟨mg_none hK hg (beq_iff_eq.mp (List.all_eq_true.mp S.prim _ (prim_in p).1)),(hboot _ (prim_in p).2).trans (boot_prim p)⟩
 isb:=⟨mg_none hK hg (beq_iff_eq.mp (List.all_eq_true.mp S.prim "isinstance" (by decide))),(hboot _ (by decide +kernel)).trans boot_isb⟩
 cls c h:=by
  obtain ⟨r,hr,rfl,e⟩:=crow_of h
  have h1:=and_l (List.all_eq_true.mp S.cls r hr)
  have h2:=and_l h1
  have h3:=and_l h2
  have h4:=and_l h3
  have h5:=and_l h4
  exact ⟨Option.isSome_iff_exists.mp (and_l h5),e▸mg_of hK hg (beq_iff_eq.mp (and_r h5)),e▸and_r h4,e▸beq_iff_eq.mp (and_r h3),beq_iff_eq.mp (and_r h2),e▸and_r h1⟩
 meth c m fd h hc:=by
  obtain ⟨r,hr,rfl,rfl,rfl,e⟩:=isSome_row h
  have q:=fin3 S hr
  unfold rowChk at q
  rw [show Nat.beq r.c 0=false from Bool.eq_false_iff.mpr fun z=>hc (Nat.eq_of_beq_eq_true z)] at q
  have q1:=and_l q
  have q2:=and_l q1
  exact ⟨Nat.le_of_ble_eq_true (and_l q2),and_r q2,e▸beq_iff_eq.mp (and_r q1),e▸and_r q⟩
 field c a h:=by
  obtain ⟨r,h1,h2⟩:=(Option.any_eq_true _ _).mp h
  have q:=crow_some h1
  obtain ⟨b,hb,e⟩:=List.any_eq_true.mp h2
  obtain rfl:=Nat.eq_of_beq_eq_true e
  rw [show CA c=r.C from by unfold CA;rw [h1]]
  exact fieldOk_of (List.all_eq_true.mp (and_r (List.all_eq_true.mp S.cls r q.1)) _ hb)
 sub a b ha hb:=by
  obtain ⟨ra,m1,rfl⟩:=erow_of ha
  obtain ⟨rb,m2,rfl⟩:=erow_of hb
  rw [beq_iff_eq.mp (and_l (and_l (List.all_eq_true.mp S.exc ra m1))),beq_iff_eq.mp (and_l (and_l (List.all_eq_true.mp S.exc rb m2)))]
  exact beq_iff_eq.mp (List.all_eq_true.mp (List.all_eq_true.mp S.sub ra m1) rb m2)
 exc c hc:=by
  obtain ⟨r,m1,rfl⟩:=erow_of hc
  have q:=List.all_eq_true.mp S.exc r m1
  have e:=beq_iff_eq.mp (and_l (and_l q))
  exact ⟨e▸mg_of hK hg (beq_iff_eq.mp (and_r (and_l q))),e▸excOk_of hK (and_r q)⟩
end
end Ab
end
section
namespace Ab
open PySem PySem.W PySem.Calls PyProof.Rows PyProof.Rows.TI
def topFx:Fx:=⟨{ scope:=default,locals:=mainGlobals,globals:=mainGlobals,cells:=[] },[],[],[],[]⟩
def noLists (K:Frag):Bool:=K.all fun p=>p.2.cls != .type "list"
theorem lookup_mem' {K:Frag} {a:Addr} {o:Obj} (h:K.lookup a=some o):(a,o)∈K:=by
 induction K with
 | nil=>cases h
 | cons p r ih =>
  obtain ⟨b,x⟩:=p
  rw [List.lookup] at h
  split at h
  ·rename_i q;cases h;rw [beq_iff_eq.mp q];exact .head _
  ·exact .tail _ (ih h)
theorem ns_gone {h:Heap} {a l:Addr} {m:Str->Option Value} {its:List Value} {n:Nat} (hn:h.Ns a m) (hl:h.get? l=some (listOf its.toArray n)):(gone h [l]).Ns a m:=by
 obtain ⟨o,es,ep,g,hd,r⟩:=hn
 refine ⟨o,es,ep,?_,hd,r⟩
 rw [gone_get]
 ·exact g
 ·intro hm
  rw [List.mem_singleton.mp hm,hl] at g
  cases g
  cases hd
theorem int_has {x:WData} (h:WShape.has [] x .int=true):∃ i,x=.int i:=by
 cases x <;> first|exact ⟨_,rfl⟩|exact nomatch (show false=true from h)
theorem ints_of_has {P:Params} {h:Heap} {xs:List WData}:∀ {vs:List Value},WShape.hasItems [] xs .int=true->WellAll P h vs xs->∃ nums:List Int,xs.length=nums.length/\IntsAre vs nums:=by
 induction xs with
 | nil=>intro vs _ w;cases w;exact ⟨[],rfl,.nil⟩
 | cons x xs ih =>
  intro vs hx w
  cases w with|cons w1 w2 =>
  have hx:WShape.has [] x .int=true/\WShape.hasItems [] xs .int=true:=Bool.and_eq_true_iff.mp hx
  obtain ⟨nums,e,hi⟩:=ih hx.2 w2
  obtain ⟨i,rfl⟩:=int_has hx.1
  cases w1 with|int _ t =>
  exact ⟨i::nums,congrArg (·+1) e,.cons i t hi⟩
section
variable {f n:Nat}
theorem law_run {prog:Program} {w:World} {K:Frag} {s:Shared} {mg mb:Str->Option Value} {l:Addr} {its:List Value} {nums:List Int} (hK:K.In s.heap) (hnl:noLists K=true)
  (hg:s.heap.Ns mainGlobals mg) (hb:s.heap.Ns builtinsNs mb) (hl:s.heap.NoLimit) (hboot:∀ x:Str,x≠"__name__"->mb x=bootBuiltins x) (S:StatIn K)
  (hgens:s.gens=#[]) (hlist:s.heap.get? l=some (listOf its.toArray 0)) (hi:IntsAre its nums) (hz:nums.length<=LIM) (hn:n<=60)
  (pure:callN T (n+1) 0 f [.ref 0] [.frz its (nums.map .int)] (fun v H=>v=.bool true/\H[0]?=some (.frz its (nums.map .int))) fun _ _=>False) :
  wpP (model prog w) callerA (call (.ref (fa 0 f)) [.ref l]) (fun v s'=>v=.bool true/\(∀ b o,s.heap.get? b=some o->s'.heap.get? b=some o)/\s'.os=s.os/\s'.gens=#[]) (fun _ _=>False) s:=by
 have hKB:K.In (gone s.heap [l]):=fun a o e=>by
  rw [gone_get]
  ·exact hK a o e
  ·intro hm
   have h2:=List.all_eq_true.mp hnl _ (lookup_mem' e)
   have:=hK a o e
   rw [List.mem_singleton.mp hm,hlist] at this
   cases this
   exact absurd (show (Value.type "list" != Value.type "list")=true from h2) (by decide)
 have St:=stat_of (prog:=prog) (w:=w) hKB (ns_gone hg hlist) (ns_gone hb hlist) (hl.elim fun mc q=>⟨mc,ns_gone q.1 hlist,q.2⟩) hboot S
 have P:Pre ⟨⟨prog,w,gone s.heap [l],K,mg,mb⟩,callerA,topFx⟩ s [(l,l)] ⟨[],[.frz its (nums.map .int)]⟩:=by
  refine ⟨hgens,⟨fun b o e=>(gone_some e).2,fun p hp=>?_,fun a ha=>(nomatch ha),List.nodup_cons.mpr ⟨nofun,List.nodup_nil⟩,List.nodup_cons.mpr ⟨nofun,List.nodup_nil⟩,rfl,fun i p o e1 e2=>?_,fun a ha=>(nomatch ha)⟩,⟨rfl,⟨mg,hg,fun i x a e1=>(nomatch e1)⟩,fun i x e1=>(nomatch e1)⟩,trivial⟩
  ·rw [List.mem_singleton.mp hp];exact gone_none (.head _)
  ·cases i with
   | succ i=>cases e1
   | zero =>
    cases e1;cases e2
    exact ⟨rfl,by rw [List.length_map];exact hz,hlist,vrels_ints hi⟩
 have KX:FxEnter (gone s.heap [l]) topFx:=⟨.inr ((ns_gone hg hlist).elim fun o q=>q.elim fun es q=>q.elim fun ep q=>⟨o,q.1⟩),fun x c e=>(nomatch e),fun env he=>(nomatch he)⟩
 have hr:RoomD (n+1) callerA topFx:=by
  refine ⟨rfl,rfl,rfl,?_,?_⟩
  ·show 1 + claimMargin + 2 * (n+1) + 3 < 1000
   have:claimMargin<=800:=by decide
   omega
  ·show 4+10 * (n+1) + 295 < 9900
   omega
 cases hF:T.fn 0 f with
 | none =>
  have pure:optP (T.fn 0 f) _:=pure
  rw [hF] at pure
  exact pure.elim
 | some fd =>
  have pure:optP (T.fn 0 f) fun fd=>vCall T (callN T n) fd [.ref 0] [.frz its (nums.map .int)] (fun v H=>v=.bool true/\H[0]?=some (.frz its (nums.map .int))) fun _ _=>False:=pure
  rw [hF] at pure
  have pure:vCall T (callN T n) fd [.ref 0] [.frz its (nums.map .int)] (fun v H=>v=.bool true/\H[0]?=some (.frz its (nums.map .int))) fun _ _=>False:=pure
  obtain ⟨d,F,ok,okn⟩:=(St.fn 0 f fd hF).ok
  have sim:=sim_callF (Γ:=⟨⟨prog,w,gone s.heap [l],K,mg,mb⟩,callerA,topFx⟩) (C:=callN T n) hr St.lim P KX F (VRels.cons (VRel.mkRef (R:=[(l,l)]) (l:=0) (a:=l) (b:=l) rfl) VRels.nil) (fun A' X' s' R' st' hr' K' FX' P' e1 e2=>sound_ss fd.body _ s' R' st' ⟨St,sound_call St n,hr',K',e1▸okn⟩ FX' P' (by show okSs fd.line X'.names X'.env.scope.names fd.body=true;rw [e1,e2];exact ok))
  refine wpP_mono (sim.call (fun v st=>v=.bool true/\st.H[0]?=some (AObj.frz its (nums.map .int))) (fun _ _=>False) pure) ?_ fun _ _ x=>x.casesOn fun _ _ _ h _ _=>h
  rintro v s' ⟨a,st',R',hq,af,r⟩
  obtain ⟨rfl,e0⟩:=hq
  refine ⟨r.bool_v,fun b o g=>?_,by rw [af.eq],af.pre.gens⟩
  by_cases hq:b=l
  ·subst hq
   have q:FrzAt _ _ _ _ _:=af.pre.sat.at (af.step.get (l:=0) (p:=(b,b)) rfl) e0
   exact inj_some hlist g▸q.g
  ·exact af.pre.sat.keep b o ((gone_get fun z=>hq (List.mem_singleton.mp z)).trans g)
theorem pre_law {l:OpenLaw} (hm:l.most=some 63) (hb:l.bound=none) {args:List WData} (h:l.row.toRowW.claim.pre args=true):∃ xs,args=[.list xs]/\WShape.hasItems [] xs .int=true/\xs.length<=63:=by
 obtain ⟨h1,h2⟩:=pre_splitW h
 have h1:WShape.hasAll [] args [.list .int]=true:=h1
 obtain ⟨d,r,rfl,k1,k2⟩:=hasAllW_cons h1
 obtain ⟨xs,rfl,k3⟩:=hasW_list k1
 have hr:r=[]:=by cases r with
  | nil=>rfl
  | cons _ _=>exact nomatch (show false=true from k2)
 subst hr
 refine ⟨xs,rfl,k3,?_⟩
 have h2:WTm.holds [] l.pre { args:=[.list xs] }=true:=h2
 unfold OpenLaw.pre at h2
 rw [hm,hb] at h2
 simp [WTm.holds,WTm.value] at h2
 by_cases hx:xs.length<=63
 ·exact hx
 ·have:less? (WData.int 63) (WData.int xs.length)=some true:=by
   show some (decide ((63:Int) < (xs.length:Int)))=some true
   rw [decide_eq_true (by omega)]
  rw [this] at h2
  simp at h2
theorem well_list_inv {P:Params} {h:Heap} {v:Value} {xs:List WData} (x:Well P h v (.list xs)):∃ a vs,v=.ref a/\h.get? a=some (listOf vs.toArray 0)/\WellAll P h vs xs:=by
 cases x with
 | list hl hi=>exact ⟨_,_,rfl,hl,hi⟩
theorem law_good {l:OpenLaw} (hm:l.most=some 63) (hb:l.bound=none) {K:Params->Frag} {as0:List Addr} {e0:∀ P,as0=(K P).map (·.1)} {q:Program} {loose:List Str} {XP:(Str->Option Value)->Heap->Prop} {d:DefRec} {kwd:List (Str×Expr)}
  (hnl:∀ P,noLists (K P)=true) (S:∀ P,StatIn (K P)) (hd:d.name=Str.ofString (nm f)) (hf:(T.fn 0 f).isSome=true) (hn:n<=60)
  (pure:∀ (its:List Value) (nums:List Int),nums.length<=63->callN T (n+1) 0 f [.ref 0] [.frz its (nums.map .int)] (fun v H=>v=.bool true/\H[0]?=some (.frz its (nums.map .int))) fun _ _=>False) :
  WalkP q loose XP (kHook K as0 e0).says l.row.toRowW d kwd fun f vs=>PySem.call f vs:=by
 intro w s₀ s₁ mg mb G Y a o pm cd doc dV kV ho hdd hcd hD hmg hgens args vals as hpre hlay hrd hwl hlo
 have hK:(K w.params).In s₁.heap:=kIn_of Y
 obtain ⟨xs,rfl,k1,k2⟩:=pre_law hm hb hpre
 obtain ⟨v,vs',rfl,w1,w2⟩:=wellAll_cons_inv hwl
 cases w2
 obtain ⟨la,its,rfl,hl,hi⟩:=well_list_inv w1
 obtain ⟨nums,e1,hI⟩:=ints_of_has k1 hi
 have hz:nums.length<=63:=e1▸k2
 obtain ⟨fd,hfd⟩:=Option.isSome_iff_exists.mp hf
 have T':=G.T
 have hlaw:a=fa 0 f:=by
  have:=(stat_of (prog:=l.row.toRowW.prog) (w:=w) hK T'.g T'.b T'.nolimit T'.builtins (S w.params)).fnG f fd hfd
  have e:=hmg
  rw [hd] at e
  have:=this.symm.trans e
  cases this;rfl
 subst hlaw
 have run:=law_run (prog:=l.row.toRowW.prog) (w:=w) hK (hnl _) T'.g T'.b T'.nolimit T'.builtins (S w.params) hgens hl hI (Nat.le_trans hz (by decide)) hn (pure its nums hz)
 refine wpP_mono run ?_ fun _ _ x=>x.elim
 rintro v s' ⟨rfl,h1,h2,h3⟩
 refine ⟨.inl ⟨_,.bool true,[],rfl,fun _=>rfl,.bool true,?_,fun _=>⟨List.nodup_nil,fun _ h=>nomatch h⟩⟩,.of_keep h1,h2,.of_eq h3⟩
 show (WShape.has [] (.bool true) .bool&&WTm.holds [] (.eq .res (.lit (.bool true))) _)=true
 rw [show WShape.has [] (.bool true) .bool=true from rfl,Bool.true_and]
 simp [WTm.holds,WTm.value,same_self]
end
end Ab
end
section
namespace Ab
open PySem PySem.W PyProof.Rows
noncomputable abbrev prg:Program:=(OpenRow.toRowW (OpenLaw.row PySem.Challenge.rw_xm0850_01)).1
noncomputable def so (s:String):Str:=Str.ofString s
noncomputable def ys (s:String) (t:Tok):Value:=.str (Str.ofString s) t
noncomputable def yr (a:Addr):Value:=.ref a
noncomputable def yi (i:Int) (t:Tok):Value:=.int i t
noncomputable def yb (b:Bool):Value:=.bool b
noncomputable def yB (s:String):Value:=.builtin s
noncomputable def yT (s:String):Value:=.type s
noncomputable def yn:Value:=.none
noncomputable def tp (l:List Value):Obj:={ cls:=.type "tuple",data:=.seq l.toArray }
noncomputable def co (l:List Value):Obj:={ cls:=.type "code",data:=.fields l.toArray }
noncomputable def nf (l:List Value):Obj:={ cls:=.none,data:=.fields l.toArray }
noncomputable def fo (s:String) (l:List Value):Obj:={ cls:=.type s,data:=.fields l.toArray }
noncomputable def fm (l:List (Option Value)):Obj:={ cls:=.type "frame",slots:=l.toArray }
noncomputable def de (P:Params) (k:String) (t:Tok) (v:Value):DictEntry:={ hash:=PyData.keyHash P (Str.ofString k),key:=.str (Str.ofString k) t,val:=v }
noncomputable def dn (l:List DictEntry) (n:Nat):Obj:={ cls:=.none,data:=.dict l.toArray n }
noncomputable def dc (l:List DictEntry) (n:Nat):Obj:={ cls:=.type "dict",data:=.dict l.toArray n }
noncomputable def flat1 (pre:Str) (l:List Stmt):List (Str×Stmt):=l.filterMap fun s=>match s with
 | .FunctionDef n ..=>some (pre++n,s)
 | _=>none
noncomputable def fnD:List (Str×Stmt):=prg.main.body.flatMap fun s=>match s with
 | .FunctionDef n ..=>[(n,s)]
 | .ClassDef n _ _ b ..=>flat1 (n++".") b
 | _=>[]
noncomputable def fuO (q:Str×Stmt) (g:Addr) (d m c k:Value):Obj:=match q.2 with
 | .FunctionDef n a b _ _ _ sc _ _ _=>{ cls:=k,data:=.func { name:=n,qualname:=q.1,params:=a,body:=.stmts b,scope:=sc,globals:=g,closure:=[],defaults:=d,kwdefaults:=.none,pyModule:=m,code:=c } }
 | _=>default
noncomputable def fu (i:Nat) (d m c:Value):Obj:=fuO (fnD.getD i default) mainGlobals d m c (.type "function")
noncomputable def ft (i:Nat) (d:Value):Obj:=fuO (fnD.getD i default) 0 d .none .none .none
noncomputable def dic (P:Params):List DictEntry:=[de P "__name__" 165 (ys "law_xm0850_01" 838),de P "__doc__" 166 yn,de P "__package__" 167 yn,de P "__loader__" 168 (yB "__main__.__loader__#opaque"),de P "__spec__" 169 yn,de P "__annotations__" 170 (yr 6),de P "__builtins__" 171 (yr 4),de P "__file__" 173 (ys "/claim/cut.py" 172),de P "__cached__" 174 yn,de P "_wall" 193 (yr 21),de P "KeepError" 215 (yr 31),de P "StoreError" 231 (yr 44),de P "Corrupt" 247 (yr 56),de P "ShortOctets" 263 (yr 68),de P "BadOption" 279 (yr 80),de P "MAX_32" 283 (yi 4294967295 282),de P "MAX_64" 285 (yi 18446744073709551615 284),de P "CHECK_CRC" 287 (yi 1 286),de P "CHECK_SUM" 289 (yi 2 288),de P "CRC_POLY" 291 (yi 2197175160 290),de P "MASK_DELTA" 293 (yi 2726488792 292),de P "write_groups" 302 (yr 89),de P "read_groups" 316 (yr 96),de P "put_varint" 323 (yr 103),de P "read_varint" 331 (yr 110),de P "put_varint32" 338 (yr 117),de P "read_varint32" 346 (yr 124),de P "put_fixed32" 353 (yr 131),de P "read_fixed32" 361 (yr 138),de P "read_lengthed" 370 (yr 145),de P "make_crc_table" 380 (yr 152),de P "crc32c" 392 (yr 160),de P "mask" 399 (yr 167),de P "checksum" 407 (yr 174),de P "Cursor" 510 (yr 255),de P "Sink" 601 (yr 332),de P "MAX_SEQ" 603 (yi 72057594037927935 602),de P "MOST_LEVELS" 605 (yi 12 604),de P "RunInfo" 659 (yr 367),de P "Manifesto" 714 (yr 402),de P "decode_manifesto" 733 (yr 413),de P "lay" 744 (yr 420),de P "Inbox" 837 (yr 477),de P "_law_draw" 847 (yr 488),de P "_law_sum" 854 (yr 495),de P "_law_spoil" 863 (yr 502),de P "_law_hole" 871 (yr 509),de P "_law_stretches" 881 (yr 516),de P "_law_same" 887 (yr 521),de P "_law_take" 901 (yr 528),de P "_law_fill" 918 (yr 535),de P "_law_gather" 925 (yr 542),de P "_law_asked" 931 (yr 547),de P "_law_deed" 947 (yr 554),de P "_law_fits" 957 (yr 561),de P "_law_ended" 972 (yr 568),de P "law" 978 (yr 573)]
noncomputable def tbl:List Value:=[yi 1 0,yi 0 0,yr 20,yi 5 0,yi 0 0,yr 27,yi 7 0,yi 0 0,yr 40,yi 9 0,yi 0 0,yr 52,yi 11 0,yi 0 0,yr 64,yi 13 0,yi 0 0,yr 76,yi 22 0,yi 0 0,yr 88,yi 31 0,yi 0 0,yr 95,yi 48 0,yi 0 0,yr 102,yi 52 0,yi 0 0,yr 109,yi 56 0,yi 0 0,yr 116,yi 60 0,yi 0 0,yr 123,yi 64 0,yi 0 0,yr 130,yi 68 0,yi 0 0,yr 137,yi 72 0,yi 0 0,yr 144,yi 77 0,yi 0 0,yr 151,yi 90 0,yi 0 0,yr 159,yi 98 0,yi 0 0,yr 166,yi 100 0,yi 0 0,yr 173,yi 106 0,yi 0 0,yr 180,yi 159 0,yi 0 0,yr 265,yi 196 0,yi 0 0,yr 342,yi 210 0,yi 0 0,yr 377,yi 239 0,yi 0 0,yr 412,yi 260 0,yi 0 0,yr 419,yi 267 0,yi 0 0,yr 426,yi 342 0,yi 0 0,yr 487,yi 344 0,yi 0 0,yr 494,yi 346 0,yi 0 0,yr 501,yi 348 0,yi 0 0,yr 508,yi 353 0,yi 0 0,yr 515,yi 364 0,yi 0 0,yr 520,yi 369 0,yi 0 0,yr 527,yi 377 0,yi 0 0,yr 534,yi 395 0,yi 0 0,yr 541,yi 402 0,yi 0 0,yr 546,yi 425 0,yi 0 0,yr 553,yi 449 0,yi 0 0,yr 560,yi 458 0,yi 0 0,yr 567,yi 471 0,yi 0 0,yr 572]
noncomputable def ob (P:Params):List Obj:=[boot_o_0 P,
 boot_o_1 P,
 dn [de P "type.__subclasses__.Exception.0" 212 (yi 31 0),de P "type.__subclasses__.Exception.n" 213 (yi 1 0)] 2,
 dc (dic P) 57,
 boot_o_4 P,
 boot_o_5 P,
 boot_o_6 P,
 boot_o_7 P,
 boot_o_8 P,
 boot_o_9 P,
 boot_o_10 P,
 tp [],
 nf tbl,
 co [ys "<module>" 182,ys "<module>" 183,ys "/claim/cut.py" 184,yi 1 0,yi 0 0,yi 0 0,yi 0 0,yi 0 0,yr 11,yb false,yi 181 0,yr 12,yn,yn,yn,yn,yi 185 0,yi 1 0,ys "/claim/cut.py" 186],
 fm [some (yr 13),some (yr 3),some (yr 3),none,some (ys "__main__" 164),none,some (yr 0)],
 tp [],
 nf [],
 tp [ys "k" 190],
 tp [],
 ft 0 (yn),
 co [ys "_wall" 187,ys "_wall" 188,ys "/claim/cut.py" 189,yi 1 0,yi 1 0,yi 0 0,yi 0 0,yi 3 0,yr 15,yb true,yi 181 0,yr 16,yn,yr 17,yr 18,yr 19,yi 191 0,yi 1 0,ys "/claim/cut.py" 192],
 fu 0 (yn) (ys "__main__" 164) (yr 20),
 tp [yT "Exception"],
 fo "builtin_function_or_method" [yB "type.__prepare__",yT "type"],
 dc [de P "__module__" 203 (ys "raftkeep.errors" 194),de P "__qualname__" 205 (ys "KeepError" 204),de P "__firstlineno__" 207 (yi 5 206),de P "__static_attributes__" 208 (yr 29)] 4,
 tp [],
 nf [],
 co [ys "KeepError" 198,ys "KeepError" 199,ys "/claim/cut.py" 200,yi 5 0,yi 0 0,yi 0 0,yi 0 0,yi 0 0,yr 25,yb false,yi 181 0,yr 26,yn,yn,yn,yn,yi 201 0,yi 5 0,ys "/claim/cut.py" 202],
 fm [some (yr 27),some (yr 3),some (yr 24),none,some (ys "raftkeep.errors" 194),none,some (yr 0)],
 tp [],
 dc [de P "__module__" 203 (ys "raftkeep.errors" 194),de P "__firstlineno__" 207 (yi 5 206),de P "__static_attributes__" 208 (yr 29),de P "__weakref__" 210 (yr 32),de P "__doc__" 211 yn] 3,
 { cls:=yT "type",data:=Data.cls { name:=so "KeepError",bases:=[yT "Exception"],mro:=[yr 31,yT "Exception",yT "BaseException",yT "object"],ns:=30,qualname:=so "KeepError",subclasses:=[yr 44] },slots:=#[some (yr 22),none,some (ys "KeepError" 196),some (ys "KeepError" 204),some (yB "Exception.__new__"),some (yb true)] },
 fo "getset_descriptor" [ys "__weakref__" 209,yr 31,yB "ExceptionGroup.__weakref__",yn],
 fo "super" [yr 31,yr 31,yr 31],
 fo "builtin_function_or_method" [yB "object.__init_subclass__",yr 31],
 tp [yr 31],
 fo "builtin_function_or_method" [yB "type.__prepare__",yT "type"],
 dc [de P "__module__" 223 (ys "raftkeep.errors" 194),de P "__qualname__" 225 (ys "StoreError" 224),de P "__firstlineno__" 227 (yi 7 226),de P "__static_attributes__" 228 (yr 42)] 4,
 tp [],
 nf [],
 co [ys "StoreError" 218,ys "StoreError" 219,ys "/claim/cut.py" 220,yi 7 0,yi 0 0,yi 0 0,yi 0 0,yi 0 0,yr 38,yb false,yi 181 0,yr 39,yn,yn,yn,yn,yi 221 0,yi 7 0,ys "/claim/cut.py" 222],
 fm [some (yr 40),some (yr 3),some (yr 37),none,some (ys "raftkeep.errors" 194),none,some (yr 0)],
 tp [],
 dc [de P "__module__" 223 (ys "raftkeep.errors" 194),de P "__firstlineno__" 227 (yi 7 226),de P "__static_attributes__" 228 (yr 42),de P "__doc__" 229 yn] 2,
 { cls:=yT "type",data:=Data.cls { name:=so "StoreError",bases:=[yr 31],mro:=[yr 44,yr 31,yT "Exception",yT "BaseException",yT "object"],ns:=43,qualname:=so "StoreError",subclasses:=[yr 56,yr 80] },slots:=#[some (yr 35),none,some (ys "StoreError" 216),some (ys "StoreError" 224),some (yB "Exception.__new__"),some (yb true)] },
 fo "super" [yr 44,yr 44,yr 44],
 fo "builtin_function_or_method" [yB "object.__init_subclass__",yr 44],
 tp [yr 44],
 fo "builtin_function_or_method" [yB "type.__prepare__",yT "type"],
 dc [de P "__module__" 239 (ys "raftkeep.errors" 194),de P "__qualname__" 241 (ys "Corrupt" 240),de P "__firstlineno__" 243 (yi 9 242),de P "__static_attributes__" 244 (yr 54)] 4,
 tp [],
 nf [],
 co [ys "Corrupt" 234,ys "Corrupt" 235,ys "/claim/cut.py" 236,yi 9 0,yi 0 0,yi 0 0,yi 0 0,yi 0 0,yr 50,yb false,yi 181 0,yr 51,yn,yn,yn,yn,yi 237 0,yi 9 0,ys "/claim/cut.py" 238],
 fm [some (yr 52),some (yr 3),some (yr 49),none,some (ys "raftkeep.errors" 194),none,some (yr 0)],
 tp [],
 dc [de P "__module__" 239 (ys "raftkeep.errors" 194),de P "__firstlineno__" 243 (yi 9 242),de P "__static_attributes__" 244 (yr 54),de P "__doc__" 245 yn] 2,
 { cls:=yT "type",data:=Data.cls { name:=so "Corrupt",bases:=[yr 44],mro:=[yr 56,yr 44,yr 31,yT "Exception",yT "BaseException",yT "object"],ns:=55,qualname:=so "Corrupt",subclasses:=[yr 68] },slots:=#[some (yr 47),none,some (ys "Corrupt" 232),some (ys "Corrupt" 240),some (yB "Exception.__new__"),some (yb true)] },
 fo "super" [yr 56,yr 56,yr 56],
 fo "builtin_function_or_method" [yB "object.__init_subclass__",yr 56],
 tp [yr 56],
 fo "builtin_function_or_method" [yB "type.__prepare__",yT "type"],
 dc [de P "__module__" 255 (ys "raftkeep.errors" 194),de P "__qualname__" 257 (ys "ShortOctets" 256),de P "__firstlineno__" 259 (yi 11 258),de P "__static_attributes__" 260 (yr 66)] 4,
 tp [],
 nf [],
 co [ys "ShortOctets" 250,ys "ShortOctets" 251,ys "/claim/cut.py" 252,yi 11 0,yi 0 0,yi 0 0,yi 0 0,yi 0 0,yr 62,yb false,yi 181 0,yr 63,yn,yn,yn,yn,yi 253 0,yi 11 0,ys "/claim/cut.py" 254],
 fm [some (yr 64),some (yr 3),some (yr 61),none,some (ys "raftkeep.errors" 194),none,some (yr 0)],
 tp [],
 dc [de P "__module__" 255 (ys "raftkeep.errors" 194),de P "__firstlineno__" 259 (yi 11 258),de P "__static_attributes__" 260 (yr 66),de P "__doc__" 261 yn] 2,
 { cls:=yT "type",data:=Data.cls { name:=so "ShortOctets",bases:=[yr 56],mro:=[yr 68,yr 56,yr 44,yr 31,yT "Exception",yT "BaseException",yT "object"],ns:=67,qualname:=so "ShortOctets" },slots:=#[some (yr 59),none,some (ys "ShortOctets" 248),some (ys "ShortOctets" 256),some (yB "Exception.__new__"),some (yb true)] },
 fo "super" [yr 68,yr 68,yr 68],
 fo "builtin_function_or_method" [yB "object.__init_subclass__",yr 68],
 tp [yr 44],
 fo "builtin_function_or_method" [yB "type.__prepare__",yT "type"],
 dc [de P "__module__" 271 (ys "raftkeep.errors" 194),de P "__qualname__" 273 (ys "BadOption" 272),de P "__firstlineno__" 275 (yi 13 274),de P "__static_attributes__" 276 (yr 78)] 4,
 tp [],
 nf [],
 co [ys "BadOption" 266,ys "BadOption" 267,ys "/claim/cut.py" 268,yi 13 0,yi 0 0,yi 0 0,yi 0 0,yi 0 0,yr 74,yb false,yi 181 0,yr 75,yn,yn,yn,yn,yi 269 0,yi 13 0,ys "/claim/cut.py" 270],
 fm [some (yr 76),some (yr 3),some (yr 73),none,some (ys "raftkeep.errors" 194),none,some (yr 0)],
 tp [],
 dc [de P "__module__" 271 (ys "raftkeep.errors" 194),de P "__firstlineno__" 275 (yi 13 274),de P "__static_attributes__" 276 (yr 78),de P "__doc__" 277 yn] 2,
 { cls:=yT "type",data:=Data.cls { name:=so "BadOption",bases:=[yr 44],mro:=[yr 80,yr 44,yr 31,yT "Exception",yT "BaseException",yT "object"],ns:=79,qualname:=so "BadOption" },slots:=#[some (yr 71),none,some (ys "BadOption" 264),some (ys "BadOption" 272),some (yB "Exception.__new__"),some (yb true)] },
 fo "super" [yr 80,yr 80,yr 80],
 fo "builtin_function_or_method" [yB "object.__init_subclass__",yr 80],
 tp [],
 nf [],
 tp [ys "n" 297,ys "most" 298,ys "out" 299],
 tp [],
 ft 1 (yn),
 co [ys "write_groups" 294,ys "write_groups" 295,ys "/claim/cut.py" 296,yi 22 0,yi 2 0,yi 0 0,yi 0 0,yi 3 0,yr 83,yb true,yi 181 0,yr 84,yn,yr 85,yr 86,yr 87,yi 300 0,yi 22 0,ys "/claim/cut.py" 301],
 fu 1 (yn) (ys "raftkeep.octets" 280) (yr 88),
 tp [],
 nf [],
 tp [ys "data" 306,ys "at" 307,ys "octets" 308,ys "most" 309,ys "n" 310,ys "shift" 311,ys "turn" 312,ys "octet" 313],
 tp [],
 ft 2 (yn),
 co [ys "read_groups" 303,ys "read_groups" 304,ys "/claim/cut.py" 305,yi 31 0,yi 4 0,yi 0 0,yi 0 0,yi 3 0,yr 90,yb true,yi 181 0,yr 91,yn,yr 92,yr 93,yr 94,yi 314 0,yi 31 0,ys "/claim/cut.py" 315],
 fu 2 (yn) (ys "raftkeep.octets" 280) (yr 95),
 tp [],
 nf [],
 tp [ys "n" 320],
 tp [],
 ft 3 (yn),
 co [ys "put_varint" 317,ys "put_varint" 318,ys "/claim/cut.py" 319,yi 48 0,yi 1 0,yi 0 0,yi 0 0,yi 3 0,yr 97,yb true,yi 181 0,yr 98,yn,yr 99,yr 100,yr 101,yi 321 0,yi 48 0,ys "/claim/cut.py" 322],
 fu 3 (yn) (ys "raftkeep.octets" 280) (yr 102),
 tp [],
 nf [],
 tp [ys "data" 327,ys "at" 328],
 tp [],
 ft 4 (yn),
 co [ys "read_varint" 324,ys "read_varint" 325,ys "/claim/cut.py" 326,yi 52 0,yi 2 0,yi 0 0,yi 0 0,yi 3 0,yr 104,yb true,yi 181 0,yr 105,yn,yr 106,yr 107,yr 108,yi 329 0,yi 52 0,ys "/claim/cut.py" 330],
 fu 4 (yn) (ys "raftkeep.octets" 280) (yr 109),
 tp [],
 nf [],
 tp [ys "n" 335],
 tp [],
 ft 5 (yn),
 co [ys "put_varint32" 332,ys "put_varint32" 333,ys "/claim/cut.py" 334,yi 56 0,yi 1 0,yi 0 0,yi 0 0,yi 3 0,yr 111,yb true,yi 181 0,yr 112,yn,yr 113,yr 114,yr 115,yi 336 0,yi 56 0,ys "/claim/cut.py" 337],
 fu 5 (yn) (ys "raftkeep.octets" 280) (yr 116),
 tp [],
 nf [],
 tp [ys "data" 342,ys "at" 343],
 tp [],
 ft 6 (yn),
 co [ys "read_varint32" 339,ys "read_varint32" 340,ys "/claim/cut.py" 341,yi 60 0,yi 2 0,yi 0 0,yi 0 0,yi 3 0,yr 118,yb true,yi 181 0,yr 119,yn,yr 120,yr 121,yr 122,yi 344 0,yi 60 0,ys "/claim/cut.py" 345],
 fu 6 (yn) (ys "raftkeep.octets" 280) (yr 123),
 tp [],
 nf [],
 tp [ys "n" 350],
 tp [],
 ft 7 (yn),
 co [ys "put_fixed32" 347,ys "put_fixed32" 348,ys "/claim/cut.py" 349,yi 64 0,yi 1 0,yi 0 0,yi 0 0,yi 3 0,yr 125,yb true,yi 181 0,yr 126,yn,yr 127,yr 128,yr 129,yi 351 0,yi 64 0,ys "/claim/cut.py" 352],
 fu 7 (yn) (ys "raftkeep.octets" 280) (yr 130),
 tp [],
 nf [],
 tp [ys "data" 357,ys "at" 358],
 tp [],
 ft 8 (yn),
 co [ys "read_fixed32" 354,ys "read_fixed32" 355,ys "/claim/cut.py" 356,yi 68 0,yi 2 0,yi 0 0,yi 0 0,yi 3 0,yr 132,yb true,yi 181 0,yr 133,yn,yr 134,yr 135,yr 136,yi 359 0,yi 68 0,ys "/claim/cut.py" 360],
 fu 8 (yn) (ys "raftkeep.octets" 280) (yr 137),
 tp [],
 nf [],
 tp [ys "data" 365,ys "at" 366,ys "count" 367],
 tp [],
 ft 9 (yn),
 co [ys "read_lengthed" 362,ys "read_lengthed" 363,ys "/claim/cut.py" 364,yi 72 0,yi 2 0,yi 0 0,yi 0 0,yi 3 0,yr 139,yb true,yi 181 0,yr 140,yn,yr 141,yr 142,yr 143,yi 368 0,yi 72 0,ys "/claim/cut.py" 369],
 fu 9 (yn) (ys "raftkeep.octets" 280) (yr 144),
 tp [],
 nf [],
 tp [ys "table" 374,ys "c" 375,ys "half" 376,ys "low" 377],
 tp [],
 ft 10 (yn),
 co [ys "make_crc_table" 371,ys "make_crc_table" 372,ys "/claim/cut.py" 373,yi 77 0,yi 0 0,yi 0 0,yi 0 0,yi 3 0,yr 146,yb true,yi 181 0,yr 147,yn,yr 148,yr 149,yr 150,yi 378 0,yi 77 0,ys "/claim/cut.py" 379],
 fu 10 (yn) (ys "raftkeep.octets" 280) (yr 151),
 tp [yi 0 381],
 tp [],
 nf [],
 tp [ys "data" 385,ys "start" 386,ys "table" 387,ys "c" 388,ys "octet" 389],
 tp [],
 ft 11 (yn),
 co [ys "crc32c" 382,ys "crc32c" 383,ys "/claim/cut.py" 384,yi 90 0,yi 2 0,yi 0 0,yi 0 0,yi 3 0,yr 154,yb true,yi 181 0,yr 155,yn,yr 156,yr 157,yr 158,yi 390 0,yi 90 0,ys "/claim/cut.py" 391],
 fu 11 (yr 153) (ys "raftkeep.octets" 280) (yr 159),
 tp [],
 nf [],
 tp [ys "c" 396],
 tp [],
 ft 12 (yn),
 co [ys "mask" 393,ys "mask" 394,ys "/claim/cut.py" 395,yi 98 0,yi 1 0,yi 0 0,yi 0 0,yi 3 0,yr 161,yb true,yi 181 0,yr 162,yn,yr 163,yr 164,yr 165,yi 397 0,yi 98 0,ys "/claim/cut.py" 398],
 fu 12 (yn) (ys "raftkeep.octets" 280) (yr 166),
 tp [],
 nf [],
 tp [ys "kind" 403,ys "data" 404],
 tp [],
 ft 13 (yn),
 co [ys "checksum" 400,ys "checksum" 401,ys "/claim/cut.py" 402,yi 100 0,yi 2 0,yi 0 0,yi 0 0,yi 3 0,yr 168,yb true,yi 181 0,yr 169,yn,yr 170,yr 171,yr 172,yi 405 0,yi 100 0,ys "/claim/cut.py" 406],
 fu 13 (yn) (ys "raftkeep.octets" 280) (yr 173),
 tp [],
 fo "builtin_function_or_method" [yB "type.__prepare__",yT "type"],
 dc [de P "__module__" 415 (ys "raftkeep.octets" 280),de P "__qualname__" 417 (ys "Cursor" 416),de P "__firstlineno__" 419 (yi 106 418),de P "__init__" 429 (yr 189),de P "left" 436 (yr 196),de P "varint" 445 (yr 203),de P "fixed32" 453 (yr 210),de P "fixed64" 460 (yr 217),de P "lengthed" 469 (yr 224),de P "octet" 477 (yr 231),de P "flag" 484 (yr 238),de P "take" 493 (yr 245),de P "done" 500 (yr 252),de P "__static_attributes__" 503 (yr 253)] 14,
 tp [],
 nf [yi 108 0,yi 4 0,yr 188,yi 114 0,yi 4 0,yr 195,yi 117 0,yi 4 0,yr 202,yi 126 0,yi 4 0,yr 209,yi 131 0,yi 4 0,yr 216,yi 134 0,yi 4 0,yr 223,yi 139 0,yi 4 0,yr 230,yi 146 0,yi 4 0,yr 237,yi 149 0,yi 4 0,yr 244,yi 156 0,yi 4 0,yr 251],
 co [ys "Cursor" 410,ys "Cursor" 411,ys "/claim/cut.py" 412,yi 106 0,yi 0 0,yi 0 0,yi 0 0,yi 0 0,yr 178,yb false,yi 181 0,yr 179,yn,yn,yn,yn,yi 413 0,yi 106 0,ys "/claim/cut.py" 414],
 fm [some (yr 180),some (yr 3),some (yr 177),none,some (ys "raftkeep.octets" 280),none,some (yr 0)],
 tp [yi 0 420],
 tp [],
 nf [],
 tp [ys "self" 424,ys "data" 425,ys "at" 426],
 tp [],
 ft 14 (yn),
 co [ys "__init__" 421,ys "Cursor.__init__" 422,ys "/claim/cut.py" 423,yi 108 0,yi 3 0,yi 0 0,yi 0 0,yi 3 0,yr 183,yb true,yi 181 0,yr 184,yn,yr 185,yr 186,yr 187,yi 427 0,yi 108 0,ys "/claim/cut.py" 428],
 fu 14 (yr 182) (ys "raftkeep.octets" 280) (yr 188),
 tp [],
 nf [],
 tp [ys "self" 433],
 tp [],
 ft 15 (yn),
 co [ys "left" 430,ys "Cursor.left" 431,ys "/claim/cut.py" 432,yi 114 0,yi 1 0,yi 0 0,yi 0 0,yi 3 0,yr 190,yb true,yi 181 0,yr 191,yn,yr 192,yr 193,yr 194,yi 434 0,yi 114 0,ys "/claim/cut.py" 435],
 fu 15 (yn) (ys "raftkeep.octets" 280) (yr 195),
 tp [],
 nf [],
 tp [ys "self" 440,ys "at" 441,ys "n" 442],
 tp [],
 ft 16 (yn),
 co [ys "varint" 437,ys "Cursor.varint" 438,ys "/claim/cut.py" 439,yi 117 0,yi 1 0,yi 0 0,yi 0 0,yi 3 0,yr 197,yb true,yi 181 0,yr 198,yn,yr 199,yr 200,yr 201,yi 443 0,yi 117 0,ys "/claim/cut.py" 444],
 fu 16 (yn) (ys "raftkeep.octets" 280) (yr 202),
 tp [],
 nf [],
 tp [ys "self" 449,ys "n" 450],
 tp [],
 ft 17 (yn),
 co [ys "fixed32" 446,ys "Cursor.fixed32" 447,ys "/claim/cut.py" 448,yi 126 0,yi 1 0,yi 0 0,yi 0 0,yi 3 0,yr 204,yb true,yi 181 0,yr 205,yn,yr 206,yr 207,yr 208,yi 451 0,yi 126 0,ys "/claim/cut.py" 452],
 fu 17 (yn) (ys "raftkeep.octets" 280) (yr 209),
 tp [],
 nf [],
 tp [ys "self" 457],
 tp [],
 ft 18 (yn),
 co [ys "fixed64" 454,ys "Cursor.fixed64" 455,ys "/claim/cut.py" 456,yi 131 0,yi 1 0,yi 0 0,yi 0 0,yi 3 0,yr 211,yb true,yi 181 0,yr 212,yn,yr 213,yr 214,yr 215,yi 458 0,yi 131 0,ys "/claim/cut.py" 459],
 fu 18 (yn) (ys "raftkeep.octets" 280) (yr 216),
 tp [],
 nf [],
 tp [ys "self" 464,ys "b" 465,ys "at" 466],
 tp [],
 ft 19 (yn),
 co [ys "lengthed" 461,ys "Cursor.lengthed" 462,ys "/claim/cut.py" 463,yi 134 0,yi 1 0,yi 0 0,yi 0 0,yi 3 0,yr 218,yb true,yi 181 0,yr 219,yn,yr 220,yr 221,yr 222,yi 467 0,yi 134 0,ys "/claim/cut.py" 468],
 fu 19 (yn) (ys "raftkeep.octets" 280) (yr 223),
 tp [],
 nf [],
 tp [ys "self" 473,ys "n" 474],
 tp [],
 ft 20 (yn),
 co [ys "octet" 470,ys "Cursor.octet" 471,ys "/claim/cut.py" 472,yi 139 0,yi 1 0,yi 0 0,yi 0 0,yi 3 0,yr 225,yb true,yi 181 0,yr 226,yn,yr 227,yr 228,yr 229,yi 475 0,yi 139 0,ys "/claim/cut.py" 476],
 fu 20 (yn) (ys "raftkeep.octets" 280) (yr 230),
 tp [],
 nf [],
 tp [ys "self" 481],
 tp [],
 ft 21 (yn),
 co [ys "flag" 478,ys "Cursor.flag" 479,ys "/claim/cut.py" 480,yi 146 0,yi 1 0,yi 0 0,yi 0 0,yi 3 0,yr 232,yb true,yi 181 0,yr 233,yn,yr 234,yr 235,yr 236,yi 482 0,yi 146 0,ys "/claim/cut.py" 483],
 fu 21 (yn) (ys "raftkeep.octets" 280) (yr 237),
 tp [],
 nf [],
 tp [ys "self" 488,ys "n" 489,ys "b" 490],
 tp [],
 ft 22 (yn),
 co [ys "take" 485,ys "Cursor.take" 486,ys "/claim/cut.py" 487,yi 149 0,yi 2 0,yi 0 0,yi 0 0,yi 3 0,yr 239,yb true,yi 181 0,yr 240,yn,yr 241,yr 242,yr 243,yi 491 0,yi 149 0,ys "/claim/cut.py" 492],
 fu 22 (yn) (ys "raftkeep.octets" 280) (yr 244),
 tp [],
 nf [],
 tp [ys "self" 497],
 tp [],
 ft 23 (yn),
 co [ys "done" 494,ys "Cursor.done" 495,ys "/claim/cut.py" 496,yi 156 0,yi 1 0,yi 0 0,yi 0 0,yi 3 0,yr 246,yb true,yi 181 0,yr 247,yn,yr 248,yr 249,yr 250,yi 498 0,yi 156 0,ys "/claim/cut.py" 499],
 fu 23 (yn) (ys "raftkeep.octets" 280) (yr 251),
 tp [ys "at" 501,ys "data" 502],
 dc [de P "__module__" 415 (ys "raftkeep.octets" 280),de P "__firstlineno__" 419 (yi 106 418),de P "__init__" 429 (yr 189),de P "left" 436 (yr 196),de P "varint" 445 (yr 203),de P "fixed32" 453 (yr 210),de P "fixed64" 460 (yr 217),de P "lengthed" 469 (yr 224),de P "octet" 477 (yr 231),de P "flag" 484 (yr 238),de P "take" 493 (yr 245),de P "done" 500 (yr 252),de P "__static_attributes__" 503 (yr 253),de P "__dict__" 505 (yr 256),de P "__weakref__" 507 (yr 257),de P "__doc__" 508 yn] 4,
 { cls:=yT "type",data:=Data.cls { name:=so "Cursor",bases:=[yT "object"],mro:=[yr 255,yT "object"],ns:=254,qualname:=so "Cursor" },slots:=#[none,none,some (ys "Cursor" 408),some (ys "Cursor" 416),some (yB "object.__new__"),some (yb true)] },
 fo "getset_descriptor" [ys "__dict__" 504,yr 255,yB "function.__dict__",yB "function.__dict__#set"],
 fo "getset_descriptor" [ys "__weakref__" 506,yr 255,yB "ExceptionGroup.__weakref__",yn],
 fo "super" [yr 255,yr 255,yr 255],
 fo "builtin_function_or_method" [yB "object.__init_subclass__",yr 255],
 tp [],
 fo "builtin_function_or_method" [yB "type.__prepare__",yT "type"],
 dc [de P "__module__" 518 (ys "raftkeep.octets" 280),de P "__qualname__" 520 (ys "Sink" 519),de P "__firstlineno__" 522 (yi 159 521),de P "__init__" 529 (yr 273),de P "varint" 537 (yr 280),de P "fixed32" 545 (yr 287),de P "fixed64" 553 (yr 294),de P "lengthed" 561 (yr 301),de P "octet" 569 (yr 308),de P "flag" 577 (yr 315),de P "raw" 585 (yr 322),de P "done" 592 (yr 329),de P "__static_attributes__" 594 (yr 330)] 13,
 tp [],
 nf [yi 161 0,yi 4 0,yr 272,yi 164 0,yi 4 0,yr 279,yi 170 0,yi 4 0,yr 286,yi 173 0,yi 4 0,yr 293,yi 176 0,yi 4 0,yr 300,yi 180 0,yi 4 0,yr 307,yi 185 0,yi 4 0,yr 314,yi 188 0,yi 4 0,yr 321,yi 191 0,yi 4 0,yr 328],
 co [ys "Sink" 513,ys "Sink" 514,ys "/claim/cut.py" 515,yi 159 0,yi 0 0,yi 0 0,yi 0 0,yi 0 0,yr 263,yb false,yi 181 0,yr 264,yn,yn,yn,yn,yi 516 0,yi 159 0,ys "/claim/cut.py" 517],
 fm [some (yr 265),some (yr 3),some (yr 262),none,some (ys "raftkeep.octets" 280),none,some (yr 0)],
 tp [],
 nf [],
 tp [ys "self" 526],
 tp [],
 ft 24 (yn),
 co [ys "__init__" 523,ys "Sink.__init__" 524,ys "/claim/cut.py" 525,yi 161 0,yi 1 0,yi 0 0,yi 0 0,yi 3 0,yr 267,yb true,yi 181 0,yr 268,yn,yr 269,yr 270,yr 271,yi 527 0,yi 161 0,ys "/claim/cut.py" 528],
 fu 24 (yn) (ys "raftkeep.octets" 280) (yr 272),
 tp [],
 nf [],
 tp [ys "self" 533,ys "n" 534],
 tp [],
 ft 25 (yn),
 co [ys "varint" 530,ys "Sink.varint" 531,ys "/claim/cut.py" 532,yi 164 0,yi 2 0,yi 0 0,yi 0 0,yi 3 0,yr 274,yb true,yi 181 0,yr 275,yn,yr 276,yr 277,yr 278,yi 535 0,yi 164 0,ys "/claim/cut.py" 536],
 fu 25 (yn) (ys "raftkeep.octets" 280) (yr 279),
 tp [],
 nf [],
 tp [ys "self" 541,ys "n" 542],
 tp [],
 ft 26 (yn),
 co [ys "fixed32" 538,ys "Sink.fixed32" 539,ys "/claim/cut.py" 540,yi 170 0,yi 2 0,yi 0 0,yi 0 0,yi 3 0,yr 281,yb true,yi 181 0,yr 282,yn,yr 283,yr 284,yr 285,yi 543 0,yi 170 0,ys "/claim/cut.py" 544],
 fu 26 (yn) (ys "raftkeep.octets" 280) (yr 286),
 tp [],
 nf [],
 tp [ys "self" 549,ys "n" 550],
 tp [],
 ft 27 (yn),
 co [ys "fixed64" 546,ys "Sink.fixed64" 547,ys "/claim/cut.py" 548,yi 173 0,yi 2 0,yi 0 0,yi 0 0,yi 3 0,yr 288,yb true,yi 181 0,yr 289,yn,yr 290,yr 291,yr 292,yi 551 0,yi 173 0,ys "/claim/cut.py" 552],
 fu 27 (yn) (ys "raftkeep.octets" 280) (yr 293),
 tp [],
 nf [],
 tp [ys "self" 557,ys "b" 558],
 tp [],
 ft 28 (yn),
 co [ys "lengthed" 554,ys "Sink.lengthed" 555,ys "/claim/cut.py" 556,yi 176 0,yi 2 0,yi 0 0,yi 0 0,yi 3 0,yr 295,yb true,yi 181 0,yr 296,yn,yr 297,yr 298,yr 299,yi 559 0,yi 176 0,ys "/claim/cut.py" 560],
 fu 28 (yn) (ys "raftkeep.octets" 280) (yr 300),
 tp [],
 nf [],
 tp [ys "self" 565,ys "n" 566],
 tp [],
 ft 29 (yn),
 co [ys "octet" 562,ys "Sink.octet" 563,ys "/claim/cut.py" 564,yi 180 0,yi 2 0,yi 0 0,yi 0 0,yi 3 0,yr 302,yb true,yi 181 0,yr 303,yn,yr 304,yr 305,yr 306,yi 567 0,yi 180 0,ys "/claim/cut.py" 568],
 fu 29 (yn) (ys "raftkeep.octets" 280) (yr 307),
 tp [],
 nf [],
 tp [ys "self" 573,ys "b" 574],
 tp [],
 ft 30 (yn),
 co [ys "flag" 570,ys "Sink.flag" 571,ys "/claim/cut.py" 572,yi 185 0,yi 2 0,yi 0 0,yi 0 0,yi 3 0,yr 309,yb true,yi 181 0,yr 310,yn,yr 311,yr 312,yr 313,yi 575 0,yi 185 0,ys "/claim/cut.py" 576],
 fu 30 (yn) (ys "raftkeep.octets" 280) (yr 314),
 tp [],
 nf [],
 tp [ys "self" 581,ys "b" 582],
 tp [],
 ft 31 (yn),
 co [ys "raw" 578,ys "Sink.raw" 579,ys "/claim/cut.py" 580,yi 188 0,yi 2 0,yi 0 0,yi 0 0,yi 3 0,yr 316,yb true,yi 181 0,yr 317,yn,yr 318,yr 319,yr 320,yi 583 0,yi 188 0,ys "/claim/cut.py" 584],
 fu 31 (yn) (ys "raftkeep.octets" 280) (yr 321),
 tp [],
 nf [],
 tp [ys "self" 589],
 tp [],
 ft 32 (yn),
 co [ys "done" 586,ys "Sink.done" 587,ys "/claim/cut.py" 588,yi 191 0,yi 1 0,yi 0 0,yi 0 0,yi 3 0,yr 323,yb true,yi 181 0,yr 324,yn,yr 325,yr 326,yr 327,yi 590 0,yi 191 0,ys "/claim/cut.py" 591],
 fu 32 (yn) (ys "raftkeep.octets" 280) (yr 328),
 tp [ys "parts" 593],
 dc [de P "__module__" 518 (ys "raftkeep.octets" 280),de P "__firstlineno__" 522 (yi 159 521),de P "__init__" 529 (yr 273),de P "varint" 537 (yr 280),de P "fixed32" 545 (yr 287),de P "fixed64" 553 (yr 294),de P "lengthed" 561 (yr 301),de P "octet" 569 (yr 308),de P "flag" 577 (yr 315),de P "raw" 585 (yr 322),de P "done" 592 (yr 329),de P "__static_attributes__" 594 (yr 330),de P "__dict__" 596 (yr 333),de P "__weakref__" 598 (yr 334),de P "__doc__" 599 yn] 4,
 { cls:=yT "type",data:=Data.cls { name:=so "Sink",bases:=[yT "object"],mro:=[yr 332,yT "object"],ns:=331,qualname:=so "Sink" },slots:=#[none,none,some (ys "Sink" 511),some (ys "Sink" 519),some (yB "object.__new__"),some (yb true)] },
 fo "getset_descriptor" [ys "__dict__" 595,yr 332,yB "function.__dict__",yB "function.__dict__#set"],
 fo "getset_descriptor" [ys "__weakref__" 597,yr 332,yB "ExceptionGroup.__weakref__",yn],
 fo "super" [yr 332,yr 332,yr 332],
 fo "builtin_function_or_method" [yB "object.__init_subclass__",yr 332],
 tp [],
 fo "builtin_function_or_method" [yB "type.__prepare__",yT "type"],
 dc [de P "__module__" 615 (ys "raftkeep.checkpoint" 606),de P "__qualname__" 617 (ys "RunInfo" 616),de P "__firstlineno__" 619 (yi 196 618),de P "__init__" 631 (yr 350),de P "row" 638 (yr 357),de P "fits" 646 (yr 364),de P "__static_attributes__" 652 (yr 365)] 7,
 tp [],
 nf [yi 198 0,yi 4 0,yr 349,yi 205 0,yi 4 0,yr 356,yi 208 0,yi 4 0,yr 363],
 co [ys "RunInfo" 610,ys "RunInfo" 611,ys "/claim/cut.py" 612,yi 196 0,yi 0 0,yi 0 0,yi 0 0,yi 0 0,yr 340,yb false,yi 181 0,yr 341,yn,yn,yn,yn,yi 613 0,yi 196 0,ys "/claim/cut.py" 614],
 fm [some (yr 342),some (yr 3),some (yr 339),none,some (ys "raftkeep.checkpoint" 606),none,some (yr 0)],
 tp [],
 nf [],
 tp [ys "self" 623,ys "level" 624,ys "size" 625,ys "check" 626,ys "smallest" 627,ys "largest" 628],
 tp [],
 ft 33 (yn),
 co [ys "__init__" 620,ys "RunInfo.__init__" 621,ys "/claim/cut.py" 622,yi 198 0,yi 6 0,yi 0 0,yi 0 0,yi 3 0,yr 344,yb true,yi 181 0,yr 345,yn,yr 346,yr 347,yr 348,yi 629 0,yi 198 0,ys "/claim/cut.py" 630],
 fu 33 (yn) (ys "raftkeep.checkpoint" 606) (yr 349),
 tp [],
 nf [],
 tp [ys "self" 635],
 tp [],
 ft 34 (yn),
 co [ys "row" 632,ys "RunInfo.row" 633,ys "/claim/cut.py" 634,yi 205 0,yi 1 0,yi 0 0,yi 0 0,yi 3 0,yr 351,yb true,yi 181 0,yr 352,yn,yr 353,yr 354,yr 355,yi 636 0,yi 205 0,ys "/claim/cut.py" 637],
 fu 34 (yn) (ys "raftkeep.checkpoint" 606) (yr 356),
 tp [],
 nf [],
 tp [ys "self" 642,ys "data" 643],
 tp [],
 ft 35 (yn),
 co [ys "fits" 639,ys "RunInfo.fits" 640,ys "/claim/cut.py" 641,yi 208 0,yi 2 0,yi 0 0,yi 0 0,yi 3 0,yr 358,yb true,yi 181 0,yr 359,yn,yr 360,yr 361,yr 362,yi 644 0,yi 208 0,ys "/claim/cut.py" 645],
 fu 35 (yn) (ys "raftkeep.checkpoint" 606) (yr 363),
 tp [ys "check" 647,ys "largest" 648,ys "level" 649,ys "size" 650,ys "smallest" 651],
 dc [de P "__module__" 615 (ys "raftkeep.checkpoint" 606),de P "__firstlineno__" 619 (yi 196 618),de P "__init__" 631 (yr 350),de P "row" 638 (yr 357),de P "fits" 646 (yr 364),de P "__static_attributes__" 652 (yr 365),de P "__dict__" 654 (yr 368),de P "__weakref__" 656 (yr 369),de P "__doc__" 657 yn] 4,
 { cls:=yT "type",data:=Data.cls { name:=so "RunInfo",bases:=[yT "object"],mro:=[yr 367,yT "object"],ns:=366,qualname:=so "RunInfo" },slots:=#[none,none,some (ys "RunInfo" 608),some (ys "RunInfo" 616),some (yB "object.__new__"),some (yb true)] },
 fo "getset_descriptor" [ys "__dict__" 653,yr 367,yB "function.__dict__",yB "function.__dict__#set"],
 fo "getset_descriptor" [ys "__weakref__" 655,yr 367,yB "ExceptionGroup.__weakref__",yn],
 fo "super" [yr 367,yr 367,yr 367],
 fo "builtin_function_or_method" [yB "object.__init_subclass__",yr 367],
 tp [],
 fo "builtin_function_or_method" [yB "type.__prepare__",yT "type"],
 dc [de P "__module__" 667 (ys "raftkeep.checkpoint" 606),de P "__qualname__" 669 (ys "Manifesto" 668),de P "__firstlineno__" 671 (yi 210 670),de P "__init__" 683 (yr 385),de P "row" 692 (yr 392),de P "encode" 701 (yr 399),de P "__static_attributes__" 707 (yr 400)] 7,
 tp [],
 nf [yi 212 0,yi 4 0,yr 384,yi 219 0,yi 4 0,yr 391,yi 225 0,yi 4 0,yr 398],
 co [ys "Manifesto" 662,ys "Manifesto" 663,ys "/claim/cut.py" 664,yi 210 0,yi 0 0,yi 0 0,yi 0 0,yi 0 0,yr 375,yb false,yi 181 0,yr 376,yn,yn,yn,yn,yi 665 0,yi 210 0,ys "/claim/cut.py" 666],
 fm [some (yr 377),some (yr 3),some (yr 374),none,some (ys "raftkeep.checkpoint" 606),none,some (yr 0)],
 tp [],
 nf [],
 tp [ys "self" 675,ys "index" 676,ys "term" 677,ys "conf_octets" 678,ys "last_seq" 679,ys "runs" 680],
 tp [],
 ft 36 (yn),
 co [ys "__init__" 672,ys "Manifesto.__init__" 673,ys "/claim/cut.py" 674,yi 212 0,yi 6 0,yi 0 0,yi 0 0,yi 3 0,yr 379,yb true,yi 181 0,yr 380,yn,yr 381,yr 382,yr 383,yi 681 0,yi 212 0,ys "/claim/cut.py" 682],
 fu 36 (yn) (ys "raftkeep.checkpoint" 606) (yr 384),
 tp [],
 nf [],
 tp [ys "self" 687,ys "rows" 688,ys "run" 689],
 tp [],
 ft 37 (yn),
 co [ys "row" 684,ys "Manifesto.row" 685,ys "/claim/cut.py" 686,yi 219 0,yi 1 0,yi 0 0,yi 0 0,yi 3 0,yr 386,yb true,yi 181 0,yr 387,yn,yr 388,yr 389,yr 390,yi 690 0,yi 219 0,ys "/claim/cut.py" 691],
 fu 37 (yn) (ys "raftkeep.checkpoint" 606) (yr 391),
 tp [],
 nf [],
 tp [ys "self" 696,ys "sink" 697,ys "run" 698],
 tp [],
 ft 38 (yn),
 co [ys "encode" 693,ys "Manifesto.encode" 694,ys "/claim/cut.py" 695,yi 225 0,yi 1 0,yi 0 0,yi 0 0,yi 3 0,yr 393,yb true,yi 181 0,yr 394,yn,yr 395,yr 396,yr 397,yi 699 0,yi 225 0,ys "/claim/cut.py" 700],
 fu 38 (yn) (ys "raftkeep.checkpoint" 606) (yr 398),
 tp [ys "conf_octets" 702,ys "index" 703,ys "last_seq" 704,ys "runs" 705,ys "term" 706],
 dc [de P "__module__" 667 (ys "raftkeep.checkpoint" 606),de P "__firstlineno__" 671 (yi 210 670),de P "__init__" 683 (yr 385),de P "row" 692 (yr 392),de P "encode" 701 (yr 399),de P "__static_attributes__" 707 (yr 400),de P "__dict__" 709 (yr 403),de P "__weakref__" 711 (yr 404),de P "__doc__" 712 yn] 4,
 { cls:=yT "type",data:=Data.cls { name:=so "Manifesto",bases:=[yT "object"],mro:=[yr 402,yT "object"],ns:=401,qualname:=so "Manifesto" },slots:=#[none,none,some (ys "Manifesto" 660),some (ys "Manifesto" 668),some (yB "object.__new__"),some (yb true)] },
 fo "getset_descriptor" [ys "__dict__" 708,yr 402,yB "function.__dict__",yB "function.__dict__#set"],
 fo "getset_descriptor" [ys "__weakref__" 710,yr 402,yB "ExceptionGroup.__weakref__",yn],
 fo "super" [yr 402,yr 402,yr 402],
 fo "builtin_function_or_method" [yB "object.__init_subclass__",yr 402],
 tp [],
 nf [],
 tp [ys "data" 718,ys "cursor" 719,ys "index" 720,ys "term" 721,ys "last_seq" 722,ys "conf_octets" 723,ys "count" 724,ys "runs" 725,ys "level" 726,ys "size" 727,ys "check" 728,ys "smallest" 729,ys "largest" 730],
 tp [],
 ft 39 (yn),
 co [ys "decode_manifesto" 715,ys "decode_manifesto" 716,ys "/claim/cut.py" 717,yi 239 0,yi 1 0,yi 0 0,yi 0 0,yi 3 0,yr 407,yb true,yi 181 0,yr 408,yn,yr 409,yr 410,yr 411,yi 731 0,yi 239 0,ys "/claim/cut.py" 732],
 fu 39 (yn) (ys "raftkeep.checkpoint" 606) (yr 412),
 tp [],
 nf [],
 tp [ys "kept" 737,ys "at" 738,ys "octets" 739,ys "start" 740,ys "old" 741],
 tp [],
 ft 40 (yn),
 co [ys "lay" 734,ys "lay" 735,ys "/claim/cut.py" 736,yi 260 0,yi 3 0,yi 0 0,yi 0 0,yi 3 0,yr 414,yb true,yi 181 0,yr 415,yn,yr 416,yr 417,yr 418,yi 742 0,yi 260 0,ys "/claim/cut.py" 743],
 fu 40 (yn) (ys "raftkeep.checkpoint" 606) (yr 419),
 tp [],
 fo "builtin_function_or_method" [yB "type.__prepare__",yT "type"],
 dc [de P "__module__" 752 (ys "raftkeep.checkpoint" 606),de P "__qualname__" 754 (ys "Inbox" 753),de P "__firstlineno__" 756 (yi 267 755),de P "__init__" 766 (yr 434),de P "first_hole" 777 (yr 441),de P "missing" 786 (yr 448),de P "whole" 793 (yr 455),de P "take" 811 (yr 462),de P "runs" 817 (yr 467),de P "row" 826 (yr 474),de P "__static_attributes__" 830 (yr 475)] 11,
 tp [],
 nf [yi 269 0,yi 4 0,yr 433,yi 278 0,yi 4 0,yr 440,yi 286 0,yi 4 0,yr 447,yi 293 0,yi 4 0,yr 454,yi 296 0,yi 4 0,yr 461,yi 320 0,yi 4 0,yr 466,yi 336 0,yi 4 0,yr 473],
 co [ys "Inbox" 747,ys "Inbox" 748,ys "/claim/cut.py" 749,yi 267 0,yi 0 0,yi 0 0,yi 0 0,yi 0 0,yr 424,yb false,yi 181 0,yr 425,yn,yn,yn,yn,yi 750 0,yi 267 0,ys "/claim/cut.py" 751],
 fm [some (yr 426),some (yr 3),some (yr 423),none,some (ys "raftkeep.checkpoint" 606),none,some (yr 0)],
 tp [],
 nf [],
 tp [ys "self" 760,ys "manifesto" 761,ys "piece_limit" 762,ys "run" 763],
 tp [],
 ft 41 (yn),
 co [ys "__init__" 757,ys "Inbox.__init__" 758,ys "/claim/cut.py" 759,yi 269 0,yi 3 0,yi 0 0,yi 0 0,yi 3 0,yr 428,yb true,yi 181 0,yr 429,yn,yr 430,yr 431,yr 432,yi 764 0,yi 269 0,ys "/claim/cut.py" 765],
 fu 41 (yn) (ys "raftkeep.checkpoint" 606) (yr 433),
 tp [],
 nf [],
 tp [ys "self" 770,ys "run" 771,ys "end" 772,ys "offset" 773,ys "octets" 774],
 tp [],
 ft 42 (yn),
 co [ys "first_hole" 767,ys "Inbox.first_hole" 768,ys "/claim/cut.py" 769,yi 278 0,yi 2 0,yi 0 0,yi 0 0,yi 3 0,yr 435,yb true,yi 181 0,yr 436,yn,yr 437,yr 438,yr 439,yi 775 0,yi 278 0,ys "/claim/cut.py" 776],
 fu 42 (yn) (ys "raftkeep.checkpoint" 606) (yr 440),
 tp [],
 nf [],
 tp [ys "self" 781,ys "run" 782,ys "offset" 783],
 tp [],
 ft 43 (yn),
 co [ys "missing" 778,ys "Inbox.missing" 779,ys "/claim/cut.py" 780,yi 286 0,yi 1 0,yi 0 0,yi 0 0,yi 3 0,yr 442,yb true,yi 181 0,yr 443,yn,yr 444,yr 445,yr 446,yi 784 0,yi 286 0,ys "/claim/cut.py" 785],
 fu 43 (yn) (ys "raftkeep.checkpoint" 606) (yr 447),
 tp [],
 nf [],
 tp [ys "self" 790],
 tp [],
 ft 44 (yn),
 co [ys "whole" 787,ys "Inbox.whole" 788,ys "/claim/cut.py" 789,yi 293 0,yi 1 0,yi 0 0,yi 0 0,yi 3 0,yr 449,yb true,yi 181 0,yr 450,yn,yr 451,yr 452,yr 453,yi 791 0,yi 293 0,ys "/claim/cut.py" 792],
 fu 44 (yn) (ys "raftkeep.checkpoint" 606) (yr 454),
 tp [],
 nf [],
 tp [ys "self" 797,ys "run" 798,ys "offset" 799,ys "octets" 800,ys "piece" 801,ys "end" 802,ys "kept" 803,ys "at" 804,ys "new" 805,ys "start" 806,ys "old" 807,ys "stop" 808],
 tp [],
 ft 45 (yn),
 co [ys "take" 794,ys "Inbox.take" 795,ys "/claim/cut.py" 796,yi 296 0,yi 4 0,yi 0 0,yi 0 0,yi 3 0,yr 456,yb true,yi 181 0,yr 457,yn,yr 458,yr 459,yr 460,yi 809 0,yi 296 0,ys "/claim/cut.py" 810],
 fu 45 (yn) (ys "raftkeep.checkpoint" 606) (yr 461),
 tp [],
 nf [],
 ft 46 (yn),
 co [ys "runs" 812,ys "Inbox.runs" 813,ys "/claim/cut.py" 814,yi 320 0,yi 1 0,yi 0 0,yi 0 0,yi 3 0,yr 463,yb true,yi 181 0,yr 464,yn,yn,yn,yr 465,yi 815 0,yi 320 0,ys "/claim/cut.py" 816],
 fu 46 (yn) (ys "raftkeep.checkpoint" 606) (yr 466),
 tp [],
 nf [],
 tp [ys "self" 821,ys "rows" 822,ys "pieces" 823],
 tp [],
 ft 47 (yn),
 co [ys "row" 818,ys "Inbox.row" 819,ys "/claim/cut.py" 820,yi 336 0,yi 1 0,yi 0 0,yi 0 0,yi 3 0,yr 468,yb true,yi 181 0,yr 469,yn,yr 470,yr 471,yr 472,yi 824 0,yi 336 0,ys "/claim/cut.py" 825],
 fu 47 (yn) (ys "raftkeep.checkpoint" 606) (yr 473),
 tp [ys "held" 827,ys "manifesto" 828,ys "piece_limit" 829],
 dc [de P "__module__" 752 (ys "raftkeep.checkpoint" 606),de P "__firstlineno__" 756 (yi 267 755),de P "__init__" 766 (yr 434),de P "first_hole" 777 (yr 441),de P "missing" 786 (yr 448),de P "whole" 793 (yr 455),de P "take" 811 (yr 462),de P "runs" 817 (yr 467),de P "row" 826 (yr 474),de P "__static_attributes__" 830 (yr 475),de P "__dict__" 832 (yr 478),de P "__weakref__" 834 (yr 479),de P "__doc__" 835 yn] 4,
 { cls:=yT "type",data:=Data.cls { name:=so "Inbox",bases:=[yT "object"],mro:=[yr 477,yT "object"],ns:=476,qualname:=so "Inbox" },slots:=#[none,none,some (ys "Inbox" 745),some (ys "Inbox" 753),some (yB "object.__new__"),some (yb true)] },
 fo "getset_descriptor" [ys "__dict__" 831,yr 477,yB "function.__dict__",yB "function.__dict__#set"],
 fo "getset_descriptor" [ys "__weakref__" 833,yr 477,yB "ExceptionGroup.__weakref__",yn],
 fo "super" [yr 477,yr 477,yr 477],
 fo "builtin_function_or_method" [yB "object.__init_subclass__",yr 477],
 tp [],
 nf [],
 tp [ys "nums" 843,ys "i" 844],
 tp [],
 ft 48 (yn),
 co [ys "_law_draw" 840,ys "_law_draw" 841,ys "/claim/cut.py" 842,yi 342 0,yi 2 0,yi 0 0,yi 0 0,yi 3 0,yr 482,yb true,yi 181 0,yr 483,yn,yr 484,yr 485,yr 486,yi 845 0,yi 342 0,ys "/claim/cut.py" 846],
 fu 48 (yn) (ys "law_xm0850_01" 838) (yr 487),
 tp [],
 nf [],
 tp [ys "octets" 851],
 tp [],
 ft 49 (yn),
 co [ys "_law_sum" 848,ys "_law_sum" 849,ys "/claim/cut.py" 850,yi 344 0,yi 1 0,yi 0 0,yi 0 0,yi 3 0,yr 489,yb true,yi 181 0,yr 490,yn,yr 491,yr 492,yr 493,yi 852 0,yi 344 0,ys "/claim/cut.py" 853],
 fu 49 (yn) (ys "law_xm0850_01" 838) (yr 494),
 tp [],
 nf [],
 tp [ys "content" 858,ys "place" 859,ys "by" 860],
 tp [],
 ft 50 (yn),
 co [ys "_law_spoil" 855,ys "_law_spoil" 856,ys "/claim/cut.py" 857,yi 346 0,yi 3 0,yi 0 0,yi 0 0,yi 3 0,yr 496,yb true,yi 181 0,yr 497,yn,yr 498,yr 499,yr 500,yi 861 0,yi 346 0,ys "/claim/cut.py" 862],
 fu 50 (yn) (ys "law_xm0850_01" 838) (yr 501),
 tp [],
 nf [],
 tp [ys "cells" 867,ys "run" 868],
 tp [],
 ft 51 (yn),
 co [ys "_law_hole" 864,ys "_law_hole" 865,ys "/claim/cut.py" 866,yi 348 0,yi 1 0,yi 0 0,yi 0 0,yi 3 0,yr 503,yb true,yi 181 0,yr 504,yn,yr 505,yr 506,yr 507,yi 869 0,yi 348 0,ys "/claim/cut.py" 870],
 fu 51 (yn) (ys "law_xm0850_01" 838) (yr 508),
 tp [],
 nf [],
 tp [ys "cell" 875,ys "found" 876,ys "at" 877,ys "end" 878],
 tp [],
 ft 52 (yn),
 co [ys "_law_stretches" 872,ys "_law_stretches" 873,ys "/claim/cut.py" 874,yi 353 0,yi 1 0,yi 0 0,yi 0 0,yi 3 0,yr 510,yb true,yi 181 0,yr 511,yn,yr 512,yr 513,yr 514,yi 879 0,yi 353 0,ys "/claim/cut.py" 880],
 fu 52 (yn) (ys "law_xm0850_01" 838) (yr 515),
 tp [],
 nf [],
 ft 53 (yn),
 co [ys "_law_same" 882,ys "_law_same" 883,ys "/claim/cut.py" 884,yi 364 0,yi 3 0,yi 0 0,yi 0 0,yi 3 0,yr 517,yb true,yi 181 0,yr 518,yn,yn,yn,yr 519,yi 885 0,yi 364 0,ys "/claim/cut.py" 886],
 fu 53 (yn) (ys "law_xm0850_01" 838) (yr 520),
 tp [],
 nf [],
 tp [ys "box" 891,ys "cells" 892,ys "limit" 893,ys "run" 894,ys "offset" 895,ys "piece" 896,ys "new" 897,ys "j" 898],
 tp [],
 ft 54 (yn),
 co [ys "_law_take" 888,ys "_law_take" 889,ys "/claim/cut.py" 890,yi 369 0,yi 6 0,yi 0 0,yi 0 0,yi 3 0,yr 522,yb true,yi 181 0,yr 523,yn,yr 524,yr 525,yr 526,yi 899 0,yi 369 0,ys "/claim/cut.py" 900],
 fu 54 (yn) (ys "law_xm0850_01" 838) (yr 527),
 tp [],
 nf [],
 tp [ys "box" 905,ys "cells" 906,ys "limit" 907,ys "contents" 908,ys "faults" 909,ys "gap" 910,ys "z" 911,ys "run" 912,ys "content" 913,ys "at" 914,ys "stop" 915],
 tp [],
 ft 55 (yn),
 co [ys "_law_fill" 902,ys "_law_fill" 903,ys "/claim/cut.py" 904,yi 377 0,yi 7 0,yi 0 0,yi 0 0,yi 3 0,yr 529,yb true,yi 181 0,yr 530,yn,yr 531,yr 532,yr 533,yi 916 0,yi 377 0,ys "/claim/cut.py" 917],
 fu 55 (yn) (ys "law_xm0850_01" 838) (yr 534),
 tp [],
 nf [],
 tp [ys "box" 922],
 tp [],
 ft 56 (yn),
 co [ys "_law_gather" 919,ys "_law_gather" 920,ys "/claim/cut.py" 921,yi 395 0,yi 1 0,yi 0 0,yi 0 0,yi 3 0,yr 536,yb true,yi 181 0,yr 537,yn,yr 538,yr 539,yr 540,yi 923 0,yi 395 0,ys "/claim/cut.py" 924],
 fu 56 (yn) (ys "law_xm0850_01" 838) (yr 541),
 tp [],
 nf [],
 ft 57 (yn),
 co [ys "_law_asked" 926,ys "_law_asked" 927,ys "/claim/cut.py" 928,yi 402 0,yi 4 0,yi 0 0,yi 0 0,yi 3 0,yr 543,yb true,yi 181 0,yr 544,yn,yn,yn,yr 545,yi 929 0,yi 402 0,ys "/claim/cut.py" 930],
 fu 57 (yn) (ys "law_xm0850_01" 838) (yr 546),
 tp [],
 nf [],
 tp [ys "box" 935,ys "cells" 936,ys "limit" 937,ys "contents" 938,ys "deed" 939,ys "z" 940,ys "run" 941,ys "content" 942,ys "place" 943,ys "piece" 944],
 tp [],
 ft 58 (yn),
 co [ys "_law_deed" 932,ys "_law_deed" 933,ys "/claim/cut.py" 934,yi 425 0,yi 6 0,yi 0 0,yi 0 0,yi 3 0,yr 548,yb true,yi 181 0,yr 549,yn,yr 550,yr 551,yr 552,yi 945 0,yi 425 0,ys "/claim/cut.py" 946],
 fu 58 (yn) (ys "law_xm0850_01" 838) (yr 553),
 tp [],
 nf [],
 tp [ys "info" 951,ys "content" 952,ys "z" 953,ys "check" 954],
 tp [],
 ft 59 (yn),
 co [ys "_law_fits" 948,ys "_law_fits" 949,ys "/claim/cut.py" 950,yi 449 0,yi 3 0,yi 0 0,yi 0 0,yi 3 0,yr 555,yb true,yi 181 0,yr 556,yn,yr 557,yr 558,yr 559,yi 955 0,yi 449 0,ys "/claim/cut.py" 956],
 fu 59 (yn) (ys "law_xm0850_01" 838) (yr 560),
 tp [],
 nf [],
 tp [ys "boxes" 961,ys "cells" 962,ys "limits" 963,ys "contents" 964,ys "checks" 965,ys "head" 966,ys "w" 967,ys "z" 968,ys "turn" 969],
 tp [],
 ft 60 (yn),
 co [ys "_law_ended" 958,ys "_law_ended" 959,ys "/claim/cut.py" 960,yi 458 0,yi 8 0,yi 0 0,yi 0 0,yi 3 0,yr 562,yb true,yi 181 0,yr 563,yn,yr 564,yr 565,yr 566,yi 970 0,yi 458 0,ys "/claim/cut.py" 971],
 fu 60 (yn) (ys "law_xm0850_01" 838) (yr 567),
 tp [],
 nf [],
 ft 61 (yn),
 co [ys "law" 973,ys "law" 974,ys "/claim/cut.py" 975,yi 471 0,yi 1 0,yi 0 0,yi 0 0,yi 3 0,yr 569,yb true,yi 181 0,yr 570,yn,yn,yn,yr 571,yi 976 0,yi 471 0,ys "/claim/cut.py" 977],
 fu 61 (yn) (ys "law_xm0850_01" 838) (yr 572)]
end Ab
end
section
set_option maxHeartbeats 8000000
namespace Ab
open PySem PySem.W PyProof.Rows
noncomputable def mkBT:List Obj->Nat->BT->BT
 | [],_,t=>t
 | o::l,i,t=>mkBT l (i+1) (t.ins i o)
noncomputable def cut0 (P:Params):BT:=mkBT (((((ob P).take 15).set 2 (boot_o_2 P)).set 3 (boot_o_3 P)).set 12 (nf [])) 0 .nil
noncomputable def cutA (P:Params) (n:Nat) (x:String) (t:Tok) (m k:Nat):BT:=mkBT ((((ob P).take n).set 3 (dc (de P "__name__" 165 (ys x t)::((dic P).drop 1).take (m - 1)) m)).set 12 (nf (tbl.take k))) 0 .nil
noncomputable abbrev stA (t:BT) (n:Nat) (k:Tok) (os:OsState):SharedT:={ tree:=t,n:=n,life:={},gens:=Array.mk [],drawn:={},toks:=k,os:=os }
noncomputable def hpP (P:Params):Heap:=⟨(ob P).toArray,{}⟩
noncomputable def env1:Env:={ scope:=prg.main.scope,locals:=mainNs,globals:=mainNs,cells:=[],code:=.ref 13,frame:=some 14 }
noncomputable abbrev bd:List Stmt:=behindTheImports prg
noncomputable abbrev cod:Code:=.body bd env1
noncomputable abbrev ps0:Pos:=⟨0,0,0,0⟩
theorem segT (p w a b c d e f):segRunT treeTable p w a b c d e f=PySem.W.Fast.tw10110043849684766642 PySem.W.Fast.tw14364793385576792824 p w a b c d e f:=by
 rw [PySem.W.Fast.te10110043849684766642,PySem.W.Fast.te14364793385576792824]
theorem segG (p w a b c d e f):segRun treeTable p w a b c d e f=PySem.W.Fast.tw14374325043358763698 PySem.W.Fast.tw14364793385576792824 p w a b c d e f:=by
 rw [PySem.W.Fast.te14374325043358763698,PySem.W.Fast.te14364793385576792824]
theorem topR (p w a b c d e):topRun treeTable p w a b c d e=PySem.W.Fast.tw14082659384304107361 PySem.W.Fast.tw14364793385576792824 p w a b c d e:=by
 rw [PySem.W.Fast.te14082659384304107361,PySem.W.Fast.te14364793385576792824]
theorem topG (p w a b c d e):topGo treeTable p w a b c d e=PySem.W.Fast.tw15667345088766844465 PySem.W.Fast.tw14364793385576792824 p w a b c d e:=by
 rw [PySem.W.Fast.te15667345088766844465,PySem.W.Fast.te14364793385576792824]
section
variable (w:World) (os:OsState)
theorem hdA:topGo treeTable prg w 11 (some (.ref 6)) 12 { heap:=boot_heap w.params,gens:=Array.mk [],drawn:=boot_drawn,toks:=boot_toks,os:=os } (topStub prg) =
  some ((stA (cut0 w.params) 15 187 os).abs,⟨denote treeTable cod,cod,ps0,[topFrame ps0]⟩):=(topG ..).trans (by rw [PySem.W.Fast.te11892475500146522536,PySem.W.Fast.te14364793385576792824];kernel_rfl)
theorem hdB:segRun treeTable prg w 11 (some (.ref 6)) 1 1 (stA (cut0 w.params) 15 187 os).abs (blockOf bd env1 cod ps0 [topFrame ps0])=some (.next,(stA (cut0 w.params) 15 187 os).abs,cod,ps0):=(segG ..).trans (by kernel_rfl)
noncomputable abbrev bd0:List Stmt:=(bd.drop 0).take 17
theorem hd0:segRunT treeTable prg w 11 (some (.ref 6)) 1 1306 (stA (cut0 w.params) 15 187 os) (piecesOf bd0 env1 cod ⟨0,0,0,0⟩ [topFrame ps0])=some (.next,stA (cutA w.params 104 "raftkeep.octets" 280 24 27) 104 324 os,cod,⟨48,0,51,34⟩):=(segT ..).trans (by kernel_rfl)
noncomputable abbrev bd1:List Stmt:=(bd.drop 17).take 10
theorem hd1:segRunT treeTable prg w 11 (some (.ref 6)) 1 306 (stA (cutA w.params 104 "raftkeep.octets" 280 24 27) 104 324 os) (piecesOf bd1 env1 cod ⟨48,0,51,34⟩ [topFrame ps0])=some (.next,stA (cutA w.params 175 "raftkeep.octets" 280 34 57) 175 408 os,cod,⟨100,0,105,50⟩):=(segT ..).trans (by kernel_rfl)
noncomputable abbrev bd2:List Stmt:=(bd.drop 27).take 1
theorem hd2:segRunT treeTable prg w 11 (some (.ref 6)) 1 514 (stA (cutA w.params 175 "raftkeep.octets" 280 34 57) 175 408 os) (piecesOf bd2 env1 cod ⟨100,0,105,50⟩ [topFrame ps0])=some (.next,stA (cutA w.params 260 "raftkeep.octets" 280 35 60) 260 511 os,cod,⟨106,0,158,64⟩):=(segT ..).trans (by kernel_rfl)
noncomputable abbrev bd3:List Stmt:=(bd.drop 28).take 1
theorem hd3:segRunT treeTable prg w 11 (some (.ref 6)) 1 477 (stA (cutA w.params 260 "raftkeep.octets" 280 35 60) 260 511 os) (piecesOf bd3 env1 cod ⟨106,0,158,64⟩ [topFrame ps0])=some (.next,stA (cutA w.params 337 "raftkeep.octets" 280 36 63) 337 602 os,cod,⟨159,0,192,32⟩):=(segT ..).trans (by kernel_rfl)
noncomputable abbrev bd4:List Stmt:=(bd.drop 29).take 4
theorem hd4:segRunT treeTable prg w 11 (some (.ref 6)) 1 321 (stA (cutA w.params 337 "raftkeep.octets" 280 36 63) 337 602 os) (piecesOf bd4 env1 cod ⟨159,0,192,32⟩ [topFrame ps0])=some (.next,stA (cutA w.params 372 "raftkeep.checkpoint" 606 39 66) 372 660 os,cod,⟨196,0,209,81⟩):=(segT ..).trans (by kernel_rfl)
noncomputable abbrev bd5:List Stmt:=(bd.drop 33).take 3
theorem hd5:segRunT treeTable prg w 11 (some (.ref 6)) 1 371 (stA (cutA w.params 372 "raftkeep.checkpoint" 606 39 66) 372 660 os) (piecesOf bd5 env1 cod ⟨196,0,209,81⟩ [topFrame ps0])=some (.next,stA (cutA w.params 421 "raftkeep.checkpoint" 606 42 75) 421 745 os,cod,⟨260,0,266,29⟩):=(segT ..).trans (by kernel_rfl)
noncomputable abbrev bd6:List Stmt:=(bd.drop 36).take 1
theorem hd6:segRunT treeTable prg w 11 (some (.ref 6)) 1 429 (stA (cutA w.params 421 "raftkeep.checkpoint" 606 42 75) 421 745 os) (piecesOf bd6 env1 cod ⟨260,0,266,29⟩ [topFrame ps0])=some (.next,stA (cutA w.params 482 "raftkeep.checkpoint" 606 43 78) 482 838 os,cod,⟨267,0,340,50⟩):=(segT ..).trans (by kernel_rfl)
noncomputable abbrev bd7:List Stmt:=(bd.drop 37).take 13
theorem hd7:segRunT treeTable prg w 11 (some (.ref 6)) 1 388 (stA (cutA w.params 482 "raftkeep.checkpoint" 606 43 78) 482 838 os) (piecesOf bd7 env1 cod ⟨267,0,340,50⟩ [topFrame ps0])=some (.next,stA (cutA w.params 562 "law_xm0850_01" 838 55 114) 562 958 os,cod,⟨449,0,457,67⟩):=(segT ..).trans (by kernel_rfl)
noncomputable abbrev bd8:List Stmt:=(bd.drop 50).take 2
theorem hd8:segRunT treeTable prg w 11 (some (.ref 6)) 1 64 (stA (cutA w.params 562 "law_xm0850_01" 838 55 114) 562 958 os) (piecesOf bd8 env1 cod ⟨449,0,457,67⟩ [topFrame ps0])=some (.next,stA (cutA w.params 574 "law_xm0850_01" 838 57 120) 574 979 os,cod,⟨471,0,524,34⟩):=(segT ..).trans (by kernel_rfl)
theorem hdZ:topRun treeTable prg w 11 (some (.ref 6)) 2 (stA (cutA w.params 574 "law_xm0850_01" 838 57 120) 574 979 os).abs (restOf [] env1 cod ⟨471,0,524,34⟩ [topFrame ps0])=some { heap:=hpP w.params,gens:=Array.mk [],toks:=979,os:=os }:=(topR ..).trans (by kernel_rfl)
theorem bd_all:bd0++(bd1++(bd2++(bd3++(bd4++(bd5++(bd6++(bd7++(bd8++[]))))))))=bd:=by kernel_rfl
theorem run:topRun treeTable prg w 11 (some (.ref 6)) (12 + (1 + (1306 + (306 + (514 + (477 + (321 + (371 + (429 + (388 + (64 + 2))))))))))) { heap:=boot_heap w.params,gens:=Array.mk [],drawn:=boot_drawn,toks:=boot_toks,os:=os } (topStub prg)=some { heap:=hpP w.params,gens:=Array.mk [],toks:=979,os:=os } :=
 go_top (hdA w os) (piece_block (hdB w os) (bd_all▸(piece_app (segRun_of (hd0 w os)) (piece_app (segRun_of (hd1 w os)) (piece_app (segRun_of (hd2 w os)) (piece_app (segRun_of (hd3 w os)) (piece_app (segRun_of (hd4 w os)) (piece_app (segRun_of (hd5 w os)) (piece_app (segRun_of (hd6 w os)) (piece_app (segRun_of (hd7 w os)) (piece_app (segRun_of (hd8 w os)) (hdZ w os))))))))))))
end
noncomputable def ad:List Addr:=[2,3,15,17,18,20,21,22,29,30,31,32,35,42,43,44,47,54,55,56,59,66,67,68,71,78,79,80,83,85,86,88,89,90,92,93,95,96,97,99,100,102,103,104,106,107,109,110,111,113,114,116,117,118,120,121,123,124,125,127,128,130,131,132,134,135,137,138,139,141,142,144,145,146,148,149,151,152,153,154,156,157,159,160,161,163,164,166,167,168,170,171,173,174,182,183,185,186,188,189,190,192,193,195,196,197,199,200,202,203,204,206,207,209,210,211,213,214,216,217,218,220,221,223,224,225,227,228,230,231,232,234,235,237,238,239,241,242,244,245,246,248,249,251,252,253,254,255,256,257,267,269,270,272,273,274,276,277,279,280,281,283,284,286,287,288,290,291,293,294,295,297,298,300,301,302,304,305,307,308,309,311,312,314,315,316,318,319,321,322,323,325,326,328,329,330,331,332,333,334,344,346,347,349,350,351,353,354,356,357,358,360,361,363,364,365,366,367,368,369,379,381,382,384,385,386,388,389,391,392,393,395,396,398,399,400,401,402,403,404,407,409,410,412,413,414,416,417,419,420,428,430,431,433,434,435,437,438,440,441,442,444,445,447,448,449,451,452,454,455,456,458,459,461,462,463,466,467,468,470,471,473,474,475,476,477,478,479,482,484,485,487,488,489,491,492,494,495,496,498,499,501,502,503,505,506,508,509,510,512,513,515,516,517,520,521,522,524,525,527,528,529,531,532,534,535,536,538,539,541,542,543,546,547,548,550,551,553,554,555,557,558,560,561,562,564,565,567,568,569,572,573]
end Ab
end
section
set_option maxHeartbeats 8000000
namespace Ab
open PySem PySem.W PyProof.Rows
noncomputable abbrev rwL:OpenLaw:=PySem.Challenge.rw_xm0850_01
noncomputable def isNm (s:Stmt):Bool:=match s with
 | .Assign [.Name n _] _ _=>n=="__name__"
 | .FunctionDef n ..=>n=="crc32c"
 | _=>false
noncomputable def vw:Program:={ prg with main:={ prg.main with body:=prg.main.body.filter fun s=>!isNm s } }
noncomputable def HP (P:Params):Frag:=ad.map fun a=>(a,(ob P).getD a default)
theorem hp_ad (P:Params):ad=(HP P).map (·.1):=by kernel_rfl
noncomputable abbrev hk:Hook:=kHook HP ad hp_ad
noncomputable abbrev lo:List Str:=[Str.ofString "crc32c"]
theorem dl_some:(defOf vw rwL.row.name).isSome=true:=by kernel_rfl
noncomputable def dl:DefRec:=((defOf vw rwL.row.name).get dl_some).1
noncomputable abbrev xt (s:Shared):Bool:=xlAt vw [] s&&recOk rwL.row.records s
noncomputable abbrev sE (w:World) (os:OsState):Shared:={ heap:=hpP w.params,gens:=Array.mk [],toks:=979,os:=os }
theorem said:rwL.wellSaid=true:=(congrFun PySem.W.Fast.te9446332074065402090 _).trans (by kernel_rfl)
theorem hl1 (w:World) (os:OsState):(staticsOk (importedModules prg.main.body) (boot_heap w.params) (hpP w.params)&&namesBound prg (hpP w.params)&&gensDone (sE w os)&&laidKept (boot_heap w.params) (hpP w.params))=true:=by kernel_rfl
theorem hl2 (w:World) (os:OsState):openSeen vw lo (importedModules prg.main.body) xt true (sE w os)=openGood vw lo:=by
 rw [PySem.W.Fast.te4187177175401517315];kernel_rfl
theorem hl3 (w:World) (os:OsState):hk.obs (sE w os)=hk.val w:=by kernel_rfl
theorem hl4 (w:World):((boot_heap w.params).isNs mainGlobals&&(Array.mk ([]:List GenState)).size==0,(boot_heap w.params).objs.size,(boot_heap w.params).nsMap mainGlobals "__annotations__")=(true,11,some (.ref 6)):=by kernel_rfl
theorem left:LeftO prg vw lo xt hk.obs hk.val 6000 true :=
 LeftO.of_pieces (boot_open (by kernel_rfl) (by decide) fun s=>by kernel_rfl) hl4 run (by decide) fun w=>funext fun os=>by rw [hl1 w os,hl2 w os,hl3 w os]
theorem hd (walk:WalkP vw lo (XL vw []) hk.says rwL.row.toRowW dl [] fun f vs=>PySem.call f vs):rwL.Holds :=
 holds_law said fun said'=>Hd.PySem.W.holds_open left hk.of hk.keeps (fun s e=>xl_of s (Bool.and_eq_true_iff.mp e).1) XL.keeps (by kernel_rfl) (by kernel_rfl) (by kernel_rfl) (fun s e=>recFacts_of (Bool.and_eq_true_iff.mp e).2) (by kernel_rfl) said' (by kernel_rfl) ⟨rfl,rfl,rfl,rfl,rfl,by kernel_rfl⟩ ⟨[.list []],by kernel_rfl,by kernel_rfl⟩ walk
end Ab
end
section
namespace Ab
open PySem PySem.W PyProof.Rows
section
variable (P:Params)
theorem st_f1:rows.all (fn1 (HP P))=true:=by kernel_rfl
theorem st_f2:rows.all (fn2 (HP P))=true:=by kernel_rfl
theorem st_f3:rows.all (fn3 (HP P))=true:=by kernel_rfl
theorem st_body:rows.map (fun r=>(dAt (HP P) r).body)=rows.map fun r=>.stmts (toSs r.fd.line r.fd.names r.fd.body):=by kernel_rfl
theorem st_bind (S:Setting) (v:Nat->Value):rows.map (fun r=>(List.range (r.fd.dflts.length+1)).map (fnBind (HP P) S v r))=rows.map fun r=>(List.range (r.fd.dflts.length+1)).map (fnBound (HP P) v r):=by kernel_rfl
theorem st_cls:crows.all (clsChk (HP P))=true:=by kernel_rfl
theorem st_glb:glbs.all (glbChk (HP P))=true:=by kernel_rfl
theorem st_prim:primNames.all (fun x=>nsIn (HP P) mainGlobals (Str.ofString x)==some none)=true:=by kernel_rfl
theorem st_exc:erows.all (fun r=>CA r.c==r.C&&nsIn (HP P) mainGlobals (Str.ofString (nm r.c))==some (some (.ref r.C))&&excChk (HP P) r.C)=true:=by kernel_rfl
theorem st_sub:erows.all (fun a=>erows.all fun b=>exmOne (HP P) (.ref a.C) (.ref b.C)==some (T.sub a.c b.c))=true:=by kernel_rfl
theorem st_no:noLists (HP P)=true:=by kernel_rfl
theorem st_in:StatIn (HP P):=⟨st_f1 P,st_f2 P,st_f3 P,st_body P,st_bind P,st_cls P,st_glb P,st_prim P,st_exc P,st_sub P⟩
end
theorem fin (pure:∀ (its:List Value) (nums:List Int),nums.length<=63->callN T 41 0 i_law [AV.ref 0] [AObj.frz its (nums.map AV.int)] (fun v H=>v=AV.bool true/\H[0]?=some (AObj.frz its (nums.map AV.int))) fun _ _=>False) :
  PySem.Challenge.rw_xm0850_01.Holds :=
 hd (law_good (f:=i_law) (n:=40) rfl rfl st_no st_in (by kernel_rfl) (by kernel_rfl) (by decide) pure)
end Ab
end
section
namespace Ab
open PySem
section
variable {P:Prop} [Decidable P] {p q:Prop}
theorem ifT (h:P) (hp:p):ifb (decide P) p q:=by rw [decide_eq_true h];exact hp
theorem ifF (h:¬ P) (hp:q):ifb (decide P) p q:=by rw [decide_eq_false h];exact hp
theorem niT (h:P) (hp:q):ifb (!decide P) p q:=by rw [decide_eq_true h];exact hp
theorem niF (h:¬ P) (hp:p):ifb (!decide P) p q:=by rw [decide_eq_false h];exact hp
end
theorem ifX {b c:Bool} {p q:Prop} (h:b=c) (hp:ifb c p q):ifb b p q:=h▸hp
section
variable {d c f:Nat} {vs:List AV} {H H' H'' G:AH} {Q:AV->AH->Prop} {E:Nat->AH->Prop}
theorem enter (fd:FD) (hF:T.fn c f=some fd) (hl:(Nat.ble vs.length fd.np&&Nat.ble fd.np (vs.length + fd.dflts.length))=true) (h:vSs T (callN T d) fd.body ⟨frame0 fd vs,H⟩ (retK Q) fun c st=>st.on fun _ H=>E c H):callN T (d+1) c f vs H Q E:=by
 show optP (T.fn c f) fun fd=>vCall T (callN T d) fd vs H Q E
 rw [hF]
 exact ⟨hl,h⟩
end
inductive Nxt {α:Type} (m:α->Nat) (s:α->St) (I:α->Prop) (n:Nat) (st:St):Prop
 | mk (b:α) (e:st=s b) (l:m b < n) (h:I b)
theorem whl {α:Type} {body:St->(St->Prop)->Prop} (m:α->Nat) (s:α->St) (I:α->Prop) (a:α) (h:I a) (step:∀ a,I a->body (s a) (Nxt m s I (m a))):WhlI body (s a) :=
 ⟨fun n st=>∃ a,n=m a/\st=s a/\I a,m a,⟨a,rfl,rfl,h⟩,fun n st ⟨a,e1,e2,h⟩=>by
  subst e1 e2
  have e:(fun st=>∃ n,n < m a/\∃ b,n=m b/\st=s b/\I b)=Nxt m s I (m a):=funext fun st=>propext ⟨fun ⟨_,l,b,e1,e2,h⟩=>⟨b,e2,e1▸l,h⟩,fun ⟨b,e,l,h⟩=>⟨_,l,b,rfl,e,h⟩⟩
  rw [e]
  exact step a h⟩
inductive Fxt {α:Type} (s:Nat->α->St) (I:Nat->α->Prop) (n:Nat) (st:St):Prop
 | mk (b:α) (e:st=s n b) (h:I n b)
theorem forR {α:Type} {all:List AV} {w:Option Nat} {body:AV->St->(St->Prop)->Prop} {k:St->Prop} (s:Nat->α->St) (I:Nat->α->Prop) (a:α) (h:I 0 a)
  (step:∀ n v a,all[n]?=some v->I n a->stands w all (s n a).H/\body v (s n a) (Fxt s I (n+1))) (fin:∀ a,I all.length a->stands w all (s all.length a).H/\k (s all.length a)):ForI all w body (s 0 a) k :=
 ⟨Fxt s I,⟨a,rfl,h⟩,fun n v st e ⟨b,q,h⟩=>q▸step n v b e h,fun st ⟨b,q,h⟩=>q▸fin b h⟩
structure Upd (S:List Nat) (H H':AH):Prop where
 le:H.length<=H'.length
 at':∀ l o,l∉S->H[l]?=some o->H'[l]?=some o
section
variable {S S':List Nat} {H H' H'' G:AH} {l:Nat} {o:AObj}
theorem Upd.refl:Upd S H H:=⟨Nat.le_refl _,fun _ _ _ h=>h⟩
theorem Upd.app:Upd S H (H++G):=⟨by rw [List.length_append];exact Nat.le_add_right _ _,fun l o _ h=>by rw [List.getElem?_append_left (List.getElem?_eq_some_iff.mp h).1];exact h⟩
theorem Upd.mono (h:Upd S H H') (hs:∀ x∈S,x∈S'):Upd S' H H':=⟨h.1,fun l o hl e=>h.2 l o (fun q=>hl (hs l q)) e⟩
theorem Upd.nil (h:Upd [] H H'):Upd S H H':=h.mono fun _ q=>nomatch q
theorem Upd.trans (h1:Upd S H H') (h2:Upd S H' H''):Upd S H H'':=⟨Nat.le_trans h1.1 h2.1,fun l o hl e=>h2.2 l o hl (h1.2 l o hl e)⟩
theorem Upd.set (h:l∈S):Upd S H (H.set l o):=⟨by rw [List.length_set];exact Nat.le_refl _,fun k o' hk e=>by rw [List.getElem?_set_ne (fun q:l=k=>hk (q▸h))];exact e⟩
theorem Upd.get (h:Upd S H H') (e:H[l]?=some o) (hl:l∉S):H'[l]?=some o:=h.2 l o hl e
theorem Upd.get0 (h:Upd [] H H') (e:H[l]?=some o):H'[l]?=some o:=h.2 l o (fun q=>nomatch q) e
theorem Upd.fresh (h0:Upd S H H') (h:Upd (l::S) H' H'') (hl:H.length<=l):Upd S H H'':=⟨Nat.le_trans h0.1 h.1,fun k o hk e=>h.2 k o (fun q=>(List.mem_cons.mp q).elim (fun q=>Nat.lt_irrefl _ (Nat.lt_of_lt_of_le (q▸(List.getElem?_eq_some_iff.mp e).1) hl)) hk) (h0.2 k o hk e)⟩
theorem getLast':(H++[o])[H.length]?=some o:=by rw [List.getElem?_append_right (Nat.le_refl _),Nat.sub_self];rfl
theorem getSet {o':AObj} (h:H[l]?=some o'):(H.set l o)[l]?=some o:=List.getElem?_set_self (List.getElem?_eq_some_iff.mp h).1
theorem le_new (h:Upd S H H') (e:H'[l]?=none):H.length<=l:=Nat.le_trans h.1 (List.getElem?_eq_none_iff.mp e)
end
end Ab
end
section
namespace Ab
open PySem
theorem and127 (n:Nat):n &&& 127=n % 128:=Nat.and_two_pow_sub_one_eq_mod n 7
theorem or128 {n:Nat} (h:n < 128):n ||| 128=n+128:=by
 have:=Nat.two_pow_add_eq_or_of_lt (i:=7) (b:=n) h 1
 rw [Nat.or_comm];simpa [Nat.add_comm] using this.symm
def enc (n:Nat):List UInt8:=if h:n < 128 then [UInt8.ofNat n] else UInt8.ofNat (n % 128+128)::enc (n / 128)
termination_by n
decreasing_by exact Nat.div_lt_self (Nat.lt_of_lt_of_le (by decide) (Nat.not_lt.mp h)) (by decide)
theorem enc_lt {n:Nat} (h:n < 128):enc n=[UInt8.ofNat n]:=by rw [enc,dif_pos h]
theorem enc_ge {n:Nat} (h:128<=n):enc n=UInt8.ofNat (n % 128+128)::enc (n / 128):=by rw [enc,dif_neg (Nat.not_lt.mpr h)]
theorem enc_len (k:Nat):∀ n:Nat,n < 2 ^ (7 * (k+1))->(enc n).length<=k+1:=by
 induction k with
 | zero=>intro n h;rw [enc_lt h];exact Nat.le_refl _
 | succ k ih =>
  intro n h
  by_cases h1:n < 128
  ·rw [enc_lt h1];exact Nat.le_add_left _ _
  ·rw [enc_ge (Nat.not_lt.mp h1),List.length_cons]
   exact Nat.succ_le_succ (ih (n / 128) ((Nat.div_lt_iff_lt_mul (by decide)).mpr (Nat.pow_add 2 (7 * (k+1)) 7▸h)))
theorem enc_len64 {n:Nat} (h:n < 18446744073709551616):(enc n).length<=10:=enc_len 9 n (Nat.lt_of_lt_of_le h (by decide))
theorem lt256 {k:Nat}:k % 128+128 < 256:=Nat.add_lt_add_right (Nat.mod_lt _ (by decide)) 128
theorem low7 (k:Nat):(k &&& 127) ||| 128=k % 128+128:=by rw [and127,or128 (Nat.mod_lt _ (by decide))]
theorem oct256 {k:Nat}:(k &&& 127) ||| 128 < 256:=low7 k▸lt256
theorem enc_dec {k:Nat} (h:128<=k):(enc (k / 128)).length < (enc k).length:=by rw [enc_ge h];exact Nat.lt_succ_self _
theorem enc_app {k:Nat} (h:128<=k) (p:List UInt8):(p++[UInt8.ofNat ((k &&& 127) ||| 128)])++enc (k / 128)=p++enc k:=by rw [enc_ge h,low7,List.append_assoc];rfl
theorem enc_one {k:Nat} (h:k < 128) (p:List UInt8):p++[UInt8.ofNat k]=p++enc k:=by rw [enc_lt h]
theorem room_app {p q r:List UInt8} (e:p++q=r) (h:r.length<=10):p.length < LIM:=Nat.lt_of_le_of_lt (Nat.le_trans (by rw [<-e,List.length_append];exact Nat.le_add_right _ _) h) (by decide)
section
variable {d:Nat} {H:AH} {Q:AV->AH->Prop} {E:Nat->AH->Prop}
structure WgI (H:AH) (n:Nat) (a:Nat×List UInt8×AH):Prop where
 o:a.2.2[H.length]?=some (.barr a.2.1)
 u:Upd [] H a.2.2
 e:a.2.1++enc a.1=enc n
theorem write_groups_spec {n m:Nat} (hn:n<=m) (hm:m < 18446744073709551616) (hQ:∀ H',Upd [] H H'->Q (.bytes (enc n)) H'):callN T (d+1) 0 i_write_groups [.int (n:Int),.int (m:Int)] H Q E :=
 enter fd_write_groups rfl rfl (ifF (Int.not_lt.mpr (Int.ofNat_le.mpr hn)) ⟨rfl,
  whl (fun a=>(enc a.1).length) (fun a=>⟨[some (.int (a.1:Int)),some (.int (m:Int)),some (.ref H.length)],a.2.2⟩) (WgI H n) ((n,[],H++[AObj.barr []]):Nat×List UInt8×AH) ⟨getLast',.app,rfl⟩ fun a J =>
   have z:=room_app J.e (enc_len64 (Nat.lt_of_le_of_lt hn hm))
   (Nat.lt_or_ge a.1 128).elim (fun h=>ifF (Int.not_le.mpr (Int.ofNat_lt.mpr h)) ⟨.mk _ J.o trivial,Bar.mk _ J.o ⟨⟨Nat.lt_trans h (by decide),z⟩,.inr (Bar.mk _ (getSet J.o) ((enc_one h a.2.1).trans J.e▸hQ _ (J.u.fresh (.set (.head _)) (Nat.le_refl _))))⟩⟩)
    fun h=>ifT (Int.ofNat_le.mpr h) ⟨.mk _ J.o trivial,Bar.mk _ J.o ⟨⟨oct256,z⟩,
     Nxt.mk (a.1 / 128,a.2.1++[UInt8.ofNat ((a.1 &&& 127) ||| 128)],a.2.2.set H.length (.barr (a.2.1++[UInt8.ofNat ((a.1 &&& 127) ||| 128)]))) rfl (enc_dec h) ⟨getSet J.o,J.u.fresh (.set (.head _)) (Nat.le_refl _),(enc_app h a.2.1).trans J.e⟩⟩⟩⟩)
theorem put_varint_spec {n:Nat} (hn:n < 18446744073709551616) (hQ:∀ H',Upd [] H H'->Q (.bytes (enc n)) H'):callN T (d + 2) 0 i_put_varint [.int (n:Int)] H Q E :=
 enter fd_put_varint rfl rfl ((Nat.lt_or_ge n 128).elim
  (fun h=>ifT (Int.ofNat_lt.mpr h) (.inl (Lst.mk _ getLast' ⟨[UInt8.ofNat n],congrArg (fun k:Nat=>[AV.int (k:Int)]) (UInt8.toNat_ofNat_of_lt (Nat.lt_trans h (by decide))).symm,enc_lt h▸hQ _ .app⟩)))
  fun h=>ifF (Int.not_lt.mpr (Int.ofNat_le.mpr h)) ⟨rfl,write_groups_spec (m:=18446744073709551615) (Nat.le_of_lt_succ hn) (by decide) hQ⟩)
theorem put_varint32_spec {n:Nat} (hn:n < 4294967296) (hQ:∀ H',Upd [] H H'->Q (.bytes (enc n)) H'):callN T (d + 2) 0 i_put_varint32 [.int (n:Int)] H Q E :=
 enter fd_put_varint32 rfl rfl ((Nat.lt_or_ge n 128).elim
  (fun h=>ifT (Int.ofNat_lt.mpr h) (.inl (Lst.mk _ getLast' ⟨[UInt8.ofNat n],congrArg (fun k:Nat=>[AV.int (k:Int)]) (UInt8.toNat_ofNat_of_lt (Nat.lt_trans h (by decide))).symm,enc_lt h▸hQ _ .app⟩)))
  fun h=>ifF (Int.not_lt.mpr (Int.ofNat_le.mpr h)) ⟨rfl,write_groups_spec (m:=4294967295) (Nat.le_of_lt_succ hn) (by decide) hQ⟩)
end
end Ab
end
section
namespace Ab
open PySem
theorem ofNat_toNat {n:Nat} (h:n < 256):(UInt8.ofNat n).toNat=n:=UInt8.toNat_ofNat_of_lt h
theorem and255 (n:Nat):n &&& 255=n % 256:=Nat.and_two_pow_sub_one_eq_mod n 8
theorem andM32 (n:Nat):n &&& 4294967295=n % 4294967296:=Nat.and_two_pow_sub_one_eq_mod n 32
theorem orShift {a b i:Nat} (h:a < 2 ^ i):a ||| b * 2 ^ i=a + b * 2 ^ i:=by
 rw [Nat.or_comm,Nat.mul_comm,<-Nat.two_pow_add_eq_or_of_lt h b,Nat.add_comm]
theorem enc_pos (n:Nat):0 < (enc n).length:=(Nat.lt_or_ge n 128).elim (fun h=>enc_lt h▸Nat.one_pos) fun h=>enc_ge h▸Nat.succ_pos _
theorem lo7 {r:Nat} (h:r < 128):(UInt8.ofNat r).toNat=r:=ofNat_toNat (Nat.lt_trans h (by decide))
theorem hi7 {r:Nat}:(UInt8.ofNat (r % 128+128)).toNat=r % 128+128:=ofNat_toNat lt256
theorem lo7lt {r:Nat} (h:r < 128):(UInt8.ofNat r).toNat < 128:=Nat.lt_of_le_of_lt (Nat.le_of_eq (lo7 h)) h
theorem hi7le {r:Nat}:128<=(UInt8.ofNat (r % 128+128)).toNat:=Nat.le_trans (Nat.le_add_left 128 _) (Nat.le_of_eq hi7.symm)
theorem hi7' (r:Nat):(r % 128+128) % 128=r % 128:=by rw [Nat.add_mod_right,Nat.mod_mod]
structure Rd (data:List UInt8) (a:Nat) (w:List UInt8):Prop where
 le:a<=data.length
 e:data.drop a=w
section
variable {data w v:List UInt8} {a:Nat} {x:UInt8}
theorem Rd.len (h:Rd data a w):data.length=a + w.length:=by rw [<-h.e,List.length_drop,Nat.add_sub_cancel' h.le]
theorem Rd.at (h:Rd data a w) (j:Nat):data[a + j]?=w[j]?:=by rw [<-h.e,List.getElem?_drop]
theorem Rd.get (h:Rd data a (x::w)):data[a]?=some x:=h.at 0
theorem Rd.lt (h:Rd data a (x::w)):a < data.length:=h.len▸Nat.lt_add_of_pos_right (Nat.succ_pos _)
theorem Rd.room (h:Rd data a (w++v)):a + w.length<=data.length:=by
 rw [h.len,List.length_append,<-Nat.add_assoc]
 exact Nat.le_add_right _ _
theorem Rd.next (h:Rd data a (w++v)):Rd data (a + w.length) v:=⟨h.room,by rw [<-List.drop_drop,h.e,List.drop_left]⟩
theorem Rd.cut (h:Rd data a (w++v)):cutL data a (a + w.length)=w:=by rw [cutL,List.drop_take,Nat.add_sub_cancel_left,h.e,List.take_left]
theorem Rd.lo {n:Nat} (h:Rd data a (enc n++v)) (l:n < 128):Rd data a (UInt8.ofNat n::v):=⟨h.le,h.e.trans (enc_lt l▸rfl)⟩
theorem Rd.hi {n:Nat} (h:Rd data a (enc n++v)) (l:128<=n):Rd data a (UInt8.ofNat (n % 128+128)::(enc (n / 128)++v)):=⟨h.le,h.e.trans (enc_ge l▸rfl)⟩
end
def fix (n:Nat):List UInt8:=[UInt8.ofNat (n % 256),UInt8.ofNat (n / 256 % 256),UInt8.ofNat (n / 65536 % 256),UInt8.ofNat (n / 16777216)]
theorem fix_ints {n:Nat} (h:n < 4294967296):[AV.int ((n &&& 255:Nat):Int),.int ((n / 2 ^ 8 &&& 255:Nat):Int),.int ((n / 2 ^ 16 &&& 255:Nat):Int),.int ((n / 2 ^ 24:Nat):Int)]=octInts (fix n):=by
 have l:∀ k,k % 256 < 256:=fun k=>Nat.mod_lt _ (by decide)
 have h4:n / 16777216 < 256:=Nat.div_lt_of_lt_mul h
 have e:octInts (fix n)=[AV.int ((UInt8.ofNat (n % 256)).toNat:Int),.int ((UInt8.ofNat (n / 256 % 256)).toNat:Int),.int ((UInt8.ofNat (n / 65536 % 256)).toNat:Int),.int ((UInt8.ofNat (n / 16777216)).toNat:Int)]:=rfl
 rw [e,ofNat_toNat (l _),ofNat_toNat (l _),ofNat_toNat (l _),ofNat_toNat h4,and255,and255,and255]
theorem enc_len32 {n:Nat} (h:n < 4294967296):(enc n).length<=5:=enc_len 4 n (Nat.lt_of_lt_of_le h (by decide))
theorem u8s (x:UInt8):x.toNat < 18446744073709551616:=Nat.lt_trans x.toNat_lt (by decide)
theorem orMod (n i:Nat):n % 2 ^ i ||| n / 2 ^ i % 256 * 2 ^ i=n % 2 ^ (i + 8):=by
 rw [orShift (Nat.mod_lt _ (Nat.two_pow_pos i)),Nat.pow_add,Nat.mod_mul,Nat.mul_comm (2 ^ i)]
theorem fix_val {n:Nat} (hn:n < 4294967296):((UInt8.ofNat (n % 256)).toNat ||| (UInt8.ofNat (n / 256 % 256)).toNat * 2 ^ 8 ||| (UInt8.ofNat (n / 65536 % 256)).toNat * 2 ^ 16 ||| (UInt8.ofNat (n / 16777216)).toNat * 2 ^ 24)=n:=by
 have l:∀ k,k % 256 < 256:=fun k=>Nat.mod_lt _ (by decide)
 rw [ofNat_toNat (l _),ofNat_toNat (l _),ofNat_toNat (l _),ofNat_toNat (Nat.div_lt_of_lt_mul hn)]
 exact ((congrArg (fun k=>k ||| n / 65536 % 256 * 2 ^ 16 ||| n / 16777216 * 2 ^ 24) (orMod n 8)).trans (congrArg (fun k=>k ||| n / 16777216 * 2 ^ 24) (orMod n 16))).trans ((orShift (Nat.mod_lt _ (by decide))).trans (Nat.mod_add_div' n 16777216))
section
variable {d:Nat} {H:AH} {Q:AV->AH->Prop} {E:Nat->AH->Prop}
theorem put_fixed32_spec {n:Nat} (hn:n < 4294967296) (hQ:∀ H',Upd [] H H'->Q (.bytes (fix n)) H'):callN T (d+1) 0 i_put_fixed32 [.int (n:Int)] H Q E:=by
 refine enter fd_put_fixed32 rfl rfl (ifF (Int.not_lt.mpr (Int.ofNat_le.mpr (Nat.le_of_lt_succ hn))) (.inl (Lst.mk _ getLast' ⟨fix n,fix_ints hn,hQ _ .app⟩)))
structure RgA where
 acc:Nat
 r:Nat
 t:Option AV
 o:Option AV
structure RgI (data rest:List UInt8) (n a j:Nat) (b:RgA):Prop where
 e:Rd data (a + j) (enc b.r++rest)
 v:n=b.acc + b.r * 2 ^ (7 * j)
 l:b.acc < 2 ^ (7 * j)
 z:(enc n).length=j + (enc b.r).length
theorem low_or {acc r j:Nat} (x:Nat) (h:acc < 2 ^ (7 * j)) (e:x % 128=r):acc ||| ((x &&& 127) * 2 ^ (7 * j))=acc + r * 2 ^ (7 * j):=by rw [and127,e,orShift h]
theorem pow7 (j:Nat):2 ^ (7 * (j+1))=2 ^ (7 * j) * 128:=Nat.pow_add 2 (7 * j) 7
theorem rg_val {acc r j:Nat}:acc + r % 128 * 2 ^ (7 * j) + r / 128 * 2 ^ (7 * (j+1))=acc + r * 2 ^ (7 * j):=by
 rw [pow7,Nat.add_assoc,Nat.mul_comm (2 ^ (7 * j)) 128,<-Nat.mul_assoc,<-Nat.add_mul,Nat.mod_add_div' r 128]
theorem rg_lt {acc r j:Nat} (h:acc < 2 ^ (7 * j)):acc + r % 128 * 2 ^ (7 * j) < 2 ^ (7 * (j+1)):=by
 rw [pow7,Nat.mul_comm (r % 128)]
 exact Nat.lt_of_lt_of_le (Nat.add_lt_add_right h _) (by rw [Nat.add_comm,<-Nat.mul_succ];exact Nat.mul_le_mul_left _ (Nat.mod_lt _ (by decide)))
theorem RgI.small {data rest:List UInt8} {n a j o:Nat} {b:RgA} (J:RgI data rest n a j b) (ho:(enc n).length<=o) (ho2:o<=10):7 * j<=128 :=
 Nat.le_trans (Nat.mul_le_mul_left 7 (Nat.le_trans (Nat.le_add_right _ _) (J.z▸Nat.le_trans ho ho2))) (by decide)
theorem and127_lt (x:Nat):x &&& 127 < 18446744073709551616:=and127 x▸Nat.lt_trans (Nat.mod_lt _ (by decide)) (by decide)
theorem read_groups_spec {n m o a:Nat} {data rest:List UInt8} (hn:n<=m) (ho:(enc n).length<=o) (ho2:o<=10) (hp:Rd data a (enc n++rest))
  (hQ:Q (.tup [.int (n:Int),.int ((a + (enc n).length:Nat):Int)]) H) :
  callN T (d+1) 0 i_read_groups [.bytes data,.int (a:Int),.int (o:Int),.int (m:Int)] H Q E :=
 have fin:∀ u w:Nat,u=n->w=a + (enc n).length->Q (.tup [.int (u:Int),.int (w:Int)]) H:=fun u w e1 e2=>e1▸e2▸hQ
 enter fd_read_groups rfl rfl ⟨Nat.le_trans ho2 (by decide),
  forR (fun j (b:RgA)=>⟨[some (.bytes data),some (.int ((a + j:Nat):Int)),some (.int (o:Int)),some (.int (m:Int)),some (.int (b.acc:Int)),some (.int ((7 * j:Nat):Int)),b.t,b.o],H⟩) (RgI data rest n a) ⟨0,n,none,none⟩
   ⟨hp,by rw [Nat.mul_zero,Nat.pow_zero,Nat.mul_one,Nat.zero_add],Nat.one_pos,(Nat.zero_add _).symm⟩
   (fun j v b e J=>⟨trivial,(Nat.lt_or_ge b.r 128).elim
    (fun h =>
     have x:=J.e.lo h
     have q:=(low_or (UInt8.ofNat b.r).toNat J.l ((congrArg (· % 128) (lo7 h)).trans (Nat.mod_eq_of_lt h))).trans J.v.symm
     ifF (Int.not_le.mpr (Int.ofNat_lt.mpr x.lt)) (At.mk _ x.get ⟨and127_lt _,J.small ho ho2,
      ifT (Int.ofNat_lt.mpr (lo7lt h)) (ifF (Int.not_lt.mpr (Int.ofNat_le.mpr (q▸hn))) (fin _ _ q (by rw [J.z,enc_lt h];rfl)))⟩))
    fun h =>
     have x:=J.e.hi h
     have q:=low_or (UInt8.ofNat (b.r % 128+128)).toNat J.l ((congrArg (· % 128) hi7).trans (hi7' _))
     ifF (Int.not_le.mpr (Int.ofNat_lt.mpr x.lt)) (At.mk _ x.get ⟨and127_lt _,J.small ho ho2,
      ifF (Int.not_lt.mpr (Int.ofNat_le.mpr hi7le)) (Fxt.mk ⟨_,b.r / 128,_,_⟩ rfl
       ⟨x.next (w:=[_]),q▸(J.v.trans rg_val.symm),q▸rg_lt J.l,by rw [J.z,enc_ge h,List.length_cons,Nat.add_right_comm,Nat.add_assoc]⟩)⟩)⟩)
   fun b J=>absurd (Nat.le_trans (Nat.add_lt_add_left (enc_pos b.r) _) (Nat.le_trans (Nat.le_of_eq J.z.symm) ho)) (by rw [rngItems,List.length_map,List.length_range];exact Nat.lt_irrefl _)⟩
theorem read_varint_spec {n a:Nat} {data rest:List UInt8} (hn:n < 18446744073709551616) (hp:Rd data a (enc n++rest)) (hQ:Q (.tup [.int (n:Int),.int ((a + (enc n).length:Nat):Int)]) H) :
  callN T (d + 2) 0 i_read_varint [.bytes data,.int (a:Int)] H Q E :=
 have slow:=read_groups_spec (d:=d) (E:=E) (Nat.le_of_lt_succ hn) (enc_len64 hn) (by decide) hp hQ
 enter fd_read_varint rfl rfl ((Nat.lt_or_ge n 128).elim
  (fun h =>
   have x:=hp.lo h
   have l:=Int.ofNat_lt.mpr x.lt
   have q:Q (.tup [.int ((UInt8.ofNat n).toNat:Int),.int ((a+1:Nat):Int)]) H:=by
    rw [lo7 h]
    rw [enc_lt h] at hQ
    exact hQ
   ifT l (At.mk _ x.get (ifT (Int.ofNat_lt.mpr (lo7lt h)) (At.mk _ x.get q))))
  fun h =>
   have x:=hp.hi h
   ifT (Int.ofNat_lt.mpr x.lt) (At.mk _ x.get (ifF (Int.not_lt.mpr (Int.ofNat_le.mpr hi7le)) ⟨rfl,slow⟩)))
theorem read_varint32_spec {n a:Nat} {data rest:List UInt8} (hn:n < 4294967296) (hp:Rd data a (enc n++rest)) (hQ:Q (.tup [.int (n:Int),.int ((a + (enc n).length:Nat):Int)]) H) :
  callN T (d + 2) 0 i_read_varint32 [.bytes data,.int (a:Int)] H Q E :=
 have slow:=read_groups_spec (d:=d) (E:=E) (Nat.le_of_lt_succ hn) (enc_len32 hn) (by decide) hp hQ
 enter fd_read_varint32 rfl rfl ((Nat.lt_or_ge n 128).elim
  (fun h =>
   have x:=hp.lo h
   have l:=Int.ofNat_lt.mpr x.lt
   have q:Q (.tup [.int ((UInt8.ofNat n).toNat:Int),.int ((a+1:Nat):Int)]) H:=by
    rw [lo7 h]
    rw [enc_lt h] at hQ
    exact hQ
   ifT l (At.mk _ x.get (ifT (Int.ofNat_lt.mpr (lo7lt h)) (At.mk _ x.get q))))
  fun h =>
   have x:=hp.hi h
   ifT (Int.ofNat_lt.mpr x.lt) (At.mk _ x.get (ifF (Int.not_lt.mpr (Int.ofNat_le.mpr hi7le)) ⟨rfl,slow⟩)))
theorem read_fixed32_spec {n a:Nat} {data rest:List UInt8} (hn:n < 4294967296) (hp:Rd data a (fix n++rest)) (hQ:Q (.int (n:Int)) H) :
  callN T (d+1) 0 i_read_fixed32 [.bytes data,.int (a:Int)] H Q E :=
 have g:∀ j (x:UInt8),(fix n)[j]?=some x->data[a + j]?=some x:=fun j x e=>by rw [hp.at,List.getElem?_append_left (List.getElem?_eq_some_iff.mp e).1,e]
 have q:∀ v,v=n->Q (.int (v:Int)) H:=fun v e=>e▸hQ
 enter fd_read_fixed32 rfl rfl (ifF (Int.not_lt.mpr (Int.ofNat_le.mpr hp.room)) (At.mk _ (g 0 _ rfl) (At.mk _ (g 1 _ rfl) ⟨u8s _,by decide,At.mk _ (g 2 _ rfl) ⟨u8s _,by decide,At.mk _ (g 3 _ rfl) ⟨u8s _,by decide,q _ (fix_val hn)⟩⟩⟩)))
theorem read_lengthed_spec {a:Nat} {b data rest:List UInt8} (hn:b.length < 4294967296) (hd:data.length<=100000) (hp:Rd data a (enc b.length++(b++rest)))
  (hQ:Q (.tup [.bytes b,.int ((a + (enc b.length++b).length:Nat):Int)]) H) :
  callN T (d + 3) 0 i_read_lengthed [.bytes data,.int (a:Int)] H Q E :=
 have hp2:=hp.next
 have hb:∀ {k},k<=data.length->k < 1152921504606846976:=fun h=>Nat.lt_of_le_of_lt (Nat.le_trans h hd) (by decide)
 have q:∀ v k,v=b->k=a + (enc b.length++b).length->Q (.tup [.bytes v,.int (k:Int)]) H:=fun v k e1 e2=>e1▸e2▸hQ
 enter fd_read_lengthed rfl rfl ⟨rfl,read_varint32_spec hn hp ⟨rfl,ifF (Int.not_lt.mpr (Int.ofNat_le.mpr hp2.room)) ⟨hb hp2.le,hb hp2.room,q _ _ hp2.cut (by rw [List.length_append,Nat.add_assoc])⟩⟩⟩
def chk (b:List UInt8):Nat:=(b.map (·.toNat)).sum * 251 + b.length * 65537 + 7
theorem sum_cast:∀ b:List UInt8,(b.map fun x=>(x.toNat:Int)).sum=(((b.map (·.toNat)).sum:Nat):Int)
 | []=>rfl
 | x::r=>congrArg ((x.toNat:Int) + ·) (sum_cast r)
theorem sum_le_len:∀ b:List UInt8,(b.map (·.toNat)).sum<=255 * b.length
 | []=>Nat.le_refl _
 | x::r=>by
  rw [List.map_cons,List.sum_cons,List.length_cons,Nat.mul_succ,Nat.add_comm]
  exact Nat.add_le_add (sum_le_len r) (Nat.le_of_lt_succ x.toNat_lt)
theorem chk_lt {b:List UInt8} (h:b.length<=200):chk b < 4294967296 :=
 Nat.lt_of_le_of_lt (Nat.add_le_add_right (Nat.add_le_add (Nat.mul_le_mul_right _ (Nat.le_trans (sum_le_len b) (Nat.mul_le_mul_left _ h))) (Nat.mul_le_mul_right _ h)) _) (by decide)
theorem bigN {n:Nat} (h:n < 18446744073709551616):-BIG < (n:Int)/\(n:Int) < BIG:=⟨Int.lt_of_lt_of_le (by decide:-BIG < 0) (Int.natCast_nonneg n),Int.ofNat_lt.mpr h⟩
theorem big_len {b:List UInt8} (h:b.length<=200):-BIG < (b.length:Int)/\(b.length:Int) < BIG:=bigN (Nat.lt_of_le_of_lt h (by decide))
theorem big_sum {b:List UInt8} (h:b.length<=200):-BIG < (b.map fun x=>(x.toNat:Int)).sum/\(b.map fun x=>(x.toNat:Int)).sum < BIG :=
 sum_cast b▸bigN (Nat.lt_of_le_of_lt (Nat.le_trans (sum_le_len b) (Nat.mul_le_mul_left _ h)) (by decide))
theorem checksum_spec {b:List UInt8} (h:b.length<=200) (hQ:Q (.int (chk b:Int)) H):callN T (d+1) 0 i_checksum [.int 2,.bytes b] H Q E :=
 have q:∀ v:Nat,v=chk b->Q (.int (v:Int)) H:=fun v e=>e▸hQ
 enter fd_checksum rfl rfl ⟨big_sum h,by decide,big_len h,by decide,Nt.mk (a:=.int (_ * 251 + _ * 65537 + 7)) (chk b) (congrArg (fun i:Int=>AV.int (i * 251 + (b.length:Int) * 65537 + 7)) (sum_cast b)) (q _ ((andM32 _).trans (Nat.mod_eq_of_lt (chk_lt h))))⟩
end
end Ab
end
section
namespace Ab
open PySem
theorem mth {H:AH} {l m c:Nat} {fs:List (Nat×AV)} {K:Nat->List (Nat×AV)->Prop} (e:H[l]?=some (.inst c fs)) (hc:((T.fn c m).isSome&&!Nat.beq c 0&&(fget m fs).isNone)=true) (h:K c fs) :
  Ins H l fun c fs=>(T.fn c m).isSome=true/\c≠0/\fget m fs=none/\K c fs:=by
 have h1:=(Bool.and_eq_true _ _).mp hc
 have h2:=(Bool.and_eq_true _ _).mp h1.1
 exact ⟨c,fs,e,h2.1,(fun q=>by rw [q] at h2;exact nomatch h2.2),Option.isNone_iff_eq_none.mp h1.2,h⟩
theorem lt64 {n:Nat} (h:Nat.blt n 64=true):n < 64:=Nat.le_of_ble_eq_true h
theorem att {H:AH} {l a c:Nat} {fs:List (Nat×AV)} {v:AV} {K:AV->Prop} (e:H[l]?=some (.inst c fs)) (hf:T.field c a=true) (hg:fget a fs=some v) (h:K v):Ins H l fun c fs=>T.field c a=true/\optP (fget a fs) K :=
 ⟨c,fs,e,hf,hg▸h⟩
theorem sta {H:AH} {l a c:Nat} {fs:List (Nat×AV)} {K:Nat->List (Nat×AV)->Prop} (e:H[l]?=some (.inst c fs)) (hf:(T.field c a&&Nat.blt fs.length 64)=true) (h:K c fs):Ins H l fun c fs=>T.field c a=true/\fs.length < 64/\K c fs :=
 have h2:=(Bool.and_eq_true _ _).mp hf
 ⟨c,fs,e,h2.1,lt64 h2.2,h⟩
noncomputable abbrev cur (data:List UInt8) (a:Nat):AObj:=.inst i_Cursor [(i_data,.bytes data),(i_at,.int (a:Int))]
noncomputable abbrev snk (p:Nat):AObj:=.inst i_Sink [(i_parts,.ref p)]
structure Crs (data:List UInt8) (c:Nat) (B:AH) (w:List UInt8) (H:AH):Prop where
 u:Upd [c] B H
 at':∃ a,H[c]?=some (cur data a)/\Rd data a w
 le:data.length<=100000
structure Snk (t:List UInt8) (H0:AH) (p:Nat) (b w:List UInt8) (H:AH):Prop where
 u:Upd [] H0 H
 lt:H0.length < p
 hs:H[H0.length]?=some (snk p)
 hb:H[p]?=some (.barr b)
 e:b++w=t
 le:t.length<=100000
section
variable {d:Nat} {H B:AH} {Q:AV->AH->Prop} {E:Nat->AH->Prop}
theorem cursor_init {data:List UInt8} (hd:data.length<=100000) (hQ:∀ H',Crs data H.length (H++[.inst i_Cursor []]) data H'->Q .none H'):callN T (d+1) i_Cursor 1 [.ref H.length,.bytes data] (H++[.inst i_Cursor []]) Q E :=
 enter fd_Cursor_init rfl rfl (sta getLast' rfl (sta (getSet getLast') rfl (hQ _ ⟨.trans (.set (.head _)) (.set (.head _)),⟨0,getSet (getSet getLast'),Nat.zero_le _,rfl⟩,hd⟩)))
section
variable {c n:Nat} {data w:List UInt8}
theorem Crs.adv {v w:List UInt8} {a:Nat} {H':AH} (J:Crs data c B (v++w) H) (hp:Rd data a (v++w)) (u:Upd [] H H') (e:H'[c]?=some (cur data a)):Crs data c B w (H'.set c (cur data (a + v.length))):=⟨(J.u.trans u.nil).trans (.set (.head _)),⟨_,getSet e,hp.next⟩,J.le⟩
theorem cursor_varint (J:Crs data c B (enc n++w) H) (hn:n < 18446744073709551616) (hQ:∀ H',Crs data c B w H'->Q (.int (n:Int)) H') :
  callN T (d + 3) i_Cursor i_varint [.ref c] H Q E :=
 Exists.elim J.at' fun a ⟨hc,hp⟩ =>
 have K:=hQ _ (J.adv hp .refl hc)
 enter fd_Cursor_varint rfl rfl (att hc rfl rfl (att hc rfl rfl ((Nat.lt_or_ge n 128).elim
  (fun h =>
   have x:=hp.lo h
   have q:∀ v:Nat,v=n->Q (.int (v:Int)) (H.set c (cur data (a+1))):=fun v e=>by
    rw [enc_lt h] at K
    exact e▸K
   ifT (Int.ofNat_lt.mpr x.lt) (att hc rfl rfl (At.mk _ x.get (ifT (Int.ofNat_lt.mpr (lo7lt h)) (sta hc rfl (att (getSet hc) rfl rfl (At.mk _ x.get (q _ (lo7 h)))))))))
  fun h =>
   have x:=hp.hi h
   ifT (Int.ofNat_lt.mpr x.lt) (att hc rfl rfl (At.mk _ x.get (ifF (Int.not_lt.mpr (Int.ofNat_le.mpr hi7le)) ⟨rfl,att hc rfl rfl (read_varint_spec hn hp ⟨rfl,sta hc rfl K⟩)⟩))))))
theorem cursor_fixed32 (J:Crs data c B (fix n++w) H) (hn:n < 4294967296) (hQ:∀ H',Crs data c B w H'->Q (.int (n:Int)) H') :
  callN T (d + 2) i_Cursor i_fixed32 [.ref c] H Q E :=
 Exists.elim J.at' fun a ⟨hc,hp⟩=>enter fd_Cursor_fixed32 rfl rfl ⟨rfl,att hc rfl rfl (att hc rfl rfl (read_fixed32_spec hn hp (att hc rfl rfl (sta hc rfl (hQ _ (J.adv hp .refl hc))))))⟩
theorem cursor_lengthed {b:List UInt8} (J:Crs data c B ((enc b.length++b)++w) H) (hn:b.length < 4294967296) (hQ:∀ H',Crs data c B w H'->Q (.bytes b) H') :
  callN T (d + 4) i_Cursor i_lengthed [.ref c] H Q E :=
 Exists.elim J.at' fun a ⟨hc,hp⟩=>enter fd_Cursor_lengthed rfl rfl ⟨rfl,att hc rfl rfl (att hc rfl rfl (read_lengthed_spec hn J.le (List.append_assoc _ b w▸hp) ⟨rfl,sta hc rfl (hQ _ (J.adv hp .refl hc))⟩))⟩
theorem cursor_done (J:Crs data c B [] H) (hQ:Q .none H):callN T (d+1) i_Cursor i_done [.ref c] H Q E :=
 Exists.elim J.at' fun a ⟨hc,hp⟩=>enter fd_Cursor_done rfl rfl (att hc rfl rfl (att hc rfl rfl (ifF (Int.not_lt.mpr (Int.ofNat_le.mpr (Nat.le_of_eq hp.len))) hQ)))
end
variable {t b w:List UInt8} {H0:AH} {p n:Nat}
theorem sink_init (ht:t.length<=100000) (hQ:∀ H' p,Snk t H p [] t H'->Q .none H'):callN T (d+1) i_Sink 1 [.ref H.length] (H++[.inst i_Sink []]) Q E :=
 have l:H.length < (H++[AObj.inst i_Sink []]).length:=List.length_append▸Nat.lt_succ_self _
 have e:=getLast' (H:=H) (o:=.inst i_Sink [])
 have e2:=Upd.get0 (H':=H++[AObj.inst i_Sink []]++[AObj.barr []]) .app e
 enter fd_Sink_init rfl rfl ⟨rfl,sta e2 rfl (hQ _ _ ⟨Upd.fresh (.trans .app .app) (.set (.head _)) (Nat.le_refl _),l,getSet e2,by rw [List.getElem?_set_ne (Nat.ne_of_lt l)];exact getLast',rfl,ht⟩)⟩
theorem Snk.room {v:List UInt8} (J:Snk t H0 p b (v++w) H):b.length + v.length<=100000:=Nat.le_trans (by
 rw [<-J.e,List.length_append,List.length_append,<-Nat.add_assoc]
 exact Nat.le_add_right _ _) J.le
theorem Snk.adv {v:List UInt8} {H':AH} (J:Snk t H0 p b (v++w) H) (u:Upd [] H H'):Snk t H0 p (b++v) w (H'.set p (.barr (b++v))) :=
 ⟨(J.u.trans u).fresh (.set (.head _)) (Nat.le_of_lt J.lt),J.lt,by rw [List.getElem?_set_ne (Nat.ne_of_gt J.lt)];exact u.get0 J.hs,getSet (u.get0 J.hb),by rw [List.append_assoc];exact J.e,J.le⟩
theorem Snk.cast {w':List UInt8} (J:Snk t H0 p b w H) (e:w=w'):Snk t H0 p b w' H:=e▸J
theorem sink_varint (J:Snk t H0 p b (enc n++w) H) (hn:n < 18446744073709551616) (hQ:∀ H',Snk t H0 p (b++enc n) w H'->Q .none H'):callN T (d + 3) i_Sink i_varint [.ref H0.length,.int (n:Int)] H Q E :=
 have l:=J.room
 enter fd_Sink_varint rfl rfl ((Nat.lt_or_ge n 128).elim
  (fun h=>ifT (Int.ofNat_lt.mpr h) (att J.hs rfl rfl ⟨Bar.mk _ J.hb trivial,Bar.mk _ J.hb ⟨⟨Nat.lt_trans h (by decide),Nat.lt_of_le_of_lt (Nat.le_trans (Nat.le_add_right _ _) l) (by decide)⟩,enc_lt h▸hQ _ (J.adv .refl)⟩⟩))
  fun h=>ifF (Int.not_lt.mpr (Int.ofNat_le.mpr h)) (att J.hs rfl rfl ⟨Bar.mk _ J.hb trivial,rfl,put_varint_spec hn fun H1 u=>Bar.mk _ (u.get0 J.hb) ⟨Nat.le_trans l (by decide),hQ _ (J.adv u)⟩⟩))
theorem sink_fixed32 (J:Snk t H0 p b (fix n++w) H) (hn:n < 4294967296) (hQ:∀ H',Snk t H0 p (b++fix n) w H'->Q .none H'):callN T (d + 2) i_Sink i_fixed32 [.ref H0.length,.int (n:Int)] H Q E :=
 enter fd_Sink_fixed32 rfl rfl (att J.hs rfl rfl ⟨Bar.mk _ J.hb trivial,rfl,put_fixed32_spec hn fun H1 u=>Bar.mk _ (u.get0 J.hb) ⟨Nat.le_trans J.room (by decide),hQ _ (J.adv u)⟩⟩)
theorem sink_lengthed {x:List UInt8} (J:Snk t H0 p b ((enc x.length++x)++w) H) (hn:x.length < 4294967296) (hQ:∀ H',Snk t H0 p (b++enc x.length++x) w H'->Q .none H'):callN T (d + 3) i_Sink i_lengthed [.ref H0.length,.bytes x] H Q E :=
 have J:=J.cast (List.append_assoc _ x w)
 enter fd_Sink_lengthed rfl rfl (att J.hs rfl rfl ⟨Bar.mk _ J.hb trivial,rfl,put_varint32_spec hn fun H1 u=>Bar.mk _ (u.get0 J.hb) ⟨Nat.le_trans J.room (by decide),
  have J2:=J.adv u
  att J2.hs rfl rfl ⟨Bar.mk _ J2.hb trivial,Bar.mk _ J2.hb ⟨Nat.le_trans J2.room (by decide),hQ _ (J2.adv .refl)⟩⟩⟩⟩)
theorem sink_done (J:Snk t H0 p b [] H) (hQ:Q (.bytes t) H):callN T (d+1) i_Sink i_done [.ref H0.length] H Q E :=
 enter fd_Sink_done rfl rfl (att J.hs rfl rfl (.inr (Bar.mk _ J.hb ((List.append_nil b).symm.trans J.e▸hQ))))
end
end Ab
end
section
namespace Ab
open PySem
section
variable {α β:Type} {body:AV->St->(St->Prop)->Prop} {k:St->Prop} (s:Nat->α->St) (I:Nat->α->Prop) (a:α)
theorem forL {l:Nat} {f:β->AV} {xs:List β} (h:I 0 a) (st:∀ n a,I n a->(s n a).H[l]?=some (.list (xs.map f))) (step:∀ n x a,xs[n]?=some x->I n a->body (f x) (s n a) (Fxt s I (n+1)))
  (fin:∀ a,I xs.length a->k (s xs.length a)):ForI (xs.map f) (some l) body (s 0 a) k :=
 forR s I a h (fun n v a e J=>⟨st n a J,by
  rw [List.getElem?_map] at e
  obtain ⟨x,hx,rfl⟩:=Option.map_eq_some_iff.mp e
  exact step n x a hx J⟩) fun a J=>by
  rw [List.length_map] at J ⊢
  exact ⟨st _ a J,fin a J⟩
theorem forN {n:Nat} (h:I 0 a) (step:∀ j a,j < n->I j a->body (.int (j:Int)) (s j a) (Fxt s I (j+1))) (fin:∀ a,I n a->k (s n a)):ForI (rngItems n) none body (s 0 a) k :=
 forR s I a h (fun j v a e J=>⟨trivial,by
  rw [rngItems,List.getElem?_map] at e
  obtain ⟨x,hx,rfl⟩:=Option.map_eq_some_iff.mp e
  obtain ⟨hl,rfl⟩:=List.getElem?_eq_some_iff.mp hx
  rw [List.getElem_range]
  rw [List.length_range] at hl
  exact step j a hl J⟩) fun a J=>by
  rw [rngItems,List.length_map,List.length_range] at J ⊢
  exact ⟨trivial,fin a J⟩
end
theorem map_take_succ {α β:Type} {f:α->β} {xs:List α} {j:Nat} {x:α} (h:xs[j]?=some x):(xs.take j).map f++[f x]=(xs.take (j+1)).map f:=by rw [List.take_add_one,h,List.map_append];rfl
structure RI where
 level:Nat
 size:Nat
 check:Nat
 small:List UInt8
 large:List UInt8
section
variable (r:RI)
noncomputable def RI.vals:List AV:=[.int (r.level:Int),.int (r.size:Int),.int (r.check:Int),.bytes r.small,.bytes r.large]
noncomputable abbrev RI.obj:AObj:=.inst i_RunInfo [(i_level,.int (r.level:Int)),(i_size,.int (r.size:Int)),(i_check,.int (r.check:Int)),(i_smallest,.bytes r.small),(i_largest,.bytes r.large)]
noncomputable def RI.enc:List UInt8:=Ab.enc r.level++(Ab.enc r.size++(fix r.check++((Ab.enc r.small.length++r.small)++(Ab.enc r.large.length++r.large))))
structure RI.Ok:Prop where
 level:r.level < 12
 size:r.size<=200
 check:r.check < 4294967296
 small:r.small.length<=250
 large:r.large.length<=250
end
structure MF where
 index:Nat
 term:Nat
 conf:List UInt8
 seq:Nat
 runs:List RI
section
variable (m:MF)
noncomputable def MF.row:AV:=.tup [.int (m.index:Int),.int (m.term:Int),.bytes m.conf,.int (m.seq:Int),.tup (m.runs.map fun r=>.tup r.vals)]
noncomputable abbrev MF.obj (lr:Nat):AObj:=.inst i_Manifesto [(i_index,.int (m.index:Int)),(i_term,.int (m.term:Int)),(i_conf_octets,.bytes m.conf),(i_last_seq,.int (m.seq:Int)),(i_runs,.ref lr)]
noncomputable def MF.enc:List UInt8:=Ab.enc m.index++(Ab.enc m.term++(Ab.enc m.seq++((Ab.enc m.conf.length++m.conf)++(Ab.enc m.runs.length++(m.runs.map RI.enc).flatten))))
structure MF.Ok:Prop where
 index:m.index < 18446744073709551616
 term:m.term < 18446744073709551616
 seq:m.seq<=72057594037927935
 conf:m.conf.length<=300
 len:m.runs.length<=150
 runs:∀ r∈m.runs,r.Ok
end
structure MC where
 N:Nat
 m:Nat
 lr:Nat
 mf:MF
 rs:List (Nat×RI)
structure Man (k:MC) (H:AH):Prop where
 hm:H[k.m]?=some (k.mf.obj k.lr)
 hr:H[k.lr]?=some (.list (k.rs.map fun p=>.ref p.1))
 ho:∀ p∈k.rs,H[p.1]?=some p.2.obj
 lm:k.m < k.N
 ll:k.lr < k.N
 lo:∀ p∈k.rs,p.1 < k.N
 eq:k.rs.map (·.2)=k.mf.runs
 ok:k.mf.Ok
section
variable {k:MC} {H H':AH} {S:List Nat}
theorem Man.upd (h:Man k H) (hu:Upd S H H') (hs:∀ x∈S,k.N<=x):Man k H' :=
 have n:∀ {y},y < k.N->y∉S:=fun l q=>Nat.lt_irrefl _ (Nat.lt_of_lt_of_le l (hs _ q))
 ⟨hu.get h.hm (n h.lm),hu.get h.hr (n h.ll),fun p hp=>hu.get (h.ho p hp) (n (h.lo p hp)),h.lm,h.ll,h.lo,h.eq,h.ok⟩
theorem Man.upd0 (h:Man k H) (hu:Upd [] H H'):Man k H':=h.upd hu fun _ q=>nomatch q
theorem Man.rok (h:Man k H) {p:Nat×RI} (hp:p∈k.rs):p.2.Ok:=h.ok.runs _ (h.eq▸List.mem_map_of_mem hp)
theorem Man.len (h:Man k H):k.rs.length=k.mf.runs.length:=h.eq▸(List.length_map _).symm
theorem Man.le (h:Man k H):k.rs.length<=150:=h.len▸h.ok.len
end
section
variable {d:Nat} {H:AH} {Q:AV->AH->Prop} {E:Nat->AH->Prop}
theorem setLast {o o':AObj}:(H++[o]).set H.length o'=H++[o']:=by rw [List.set_append_right _ _ (Nat.le_refl _),Nat.sub_self];rfl
theorem ini5 {o a b c d e:AObj}:(((((H++[o]).set H.length a).set H.length b).set H.length c).set H.length d).set H.length e=H++[e]:=by rw [List.set_set,List.set_set,List.set_set,List.set_set,setLast]
theorem ri_init (r:RI) (hQ:Q .none (H++[r.obj])):callN T (d+1) i_RunInfo 1 (.ref H.length::r.vals) (H++[.inst i_RunInfo []]) Q E :=
 have q:∀ H',H'=H++[r.obj]->Q .none H':=fun H' e=>e▸hQ
 enter fd_RunInfo_init rfl rfl (sta getLast' rfl (sta (getSet getLast') rfl (sta (getSet (getSet getLast')) rfl (sta (getSet (getSet (getSet getLast'))) rfl (sta (getSet (getSet (getSet (getSet getLast')))) rfl (q _ ini5))))))
theorem ri_row {l:Nat} {r:RI} (hl:H[l]?=some r.obj) (hQ:Q (.tup r.vals) H):callN T (d+1) i_RunInfo i_row [.ref l] H Q E :=
 enter fd_RunInfo_row rfl rfl (att hl rfl rfl (att hl rfl rfl (att hl rfl rfl (att hl rfl rfl (att hl rfl rfl (hQ))))))
theorem ri_fits {l:Nat} {r:RI} {b:List UInt8} (hl:H[l]?=some r.obj) (hb:b.length<=200) (hQ:Q (.bool (decide (b.length=r.size/\chk b=r.check))) H):callN T (d + 2) i_RunInfo i_fits [.ref l,.bytes b] H Q E :=
 have q:∀ {P:Prop} [Decidable P],(P↔(b.length=r.size/\chk b=r.check))->Q (.bool (decide P)) H:=fun h=>(decide_eq_decide.mpr h)▸hQ
 enter fd_RunInfo_fits rfl rfl (att hl rfl rfl ((Decidable.em (b.length=r.size)).elim
  (fun h=>ifT (Int.ofNat_inj.mpr h) ⟨rfl,checksum_spec hb (att hl rfl rfl (q (Int.ofNat_inj.trans ⟨fun g=>⟨h,g⟩,fun g=>g.2⟩)))⟩)
  fun h=>ifF (fun g=>h (Int.ofNat_inj.mp g)) (q (Int.ofNat_inj.trans ⟨fun g=>absurd g h,fun g=>g.1⟩))))
theorem mf_init {lr:Nat} (m:MF) (hQ:Q .none (H++[m.obj lr])):callN T (d+1) i_Manifesto 1 [.ref H.length,.int (m.index:Int),.int (m.term:Int),.bytes m.conf,.int (m.seq:Int),.ref lr] (H++[.inst i_Manifesto []]) Q E :=
 have q:∀ H',H'=H++[m.obj lr]->Q .none H':=fun H' e=>e▸hQ
 enter fd_Manifesto_init rfl rfl (sta getLast' rfl (sta (getSet getLast') rfl (sta (getSet (getSet getLast')) rfl (sta (getSet (getSet (getSet getLast'))) rfl (sta (getSet (getSet (getSet (getSet getLast')))) rfl (q _ ini5))))))
structure RowsI (H:AH) (L:List AV) (a:Option AV×AH):Prop where
 u:Upd [] H a.2
 o:a.2[H.length]?=some (.list L)
theorem RowsI.push {H H':AH} {L:List AV} {a:Option AV×AH} (J:RowsI H L a) (u:Upd [] a.2 H') {v:AV} {t:Option AV} {L':List AV} (e:L++[v]=L'):RowsI H L' (t,H'.set H.length (.list (L++[v]))) :=
 ⟨(J.u.trans u).fresh (.set (.head _)) (Nat.le_refl _),e▸getSet (u.get0 J.o)⟩
theorem len_take {α β:Type} {f:α->β} {xs:List α} {j n:Nat} (h:xs.length<=n) (hn:n < 1048576):((xs.take j).map f).length < LIM:=by
 rw [List.length_map,List.length_take]
 exact Nat.lt_of_le_of_lt (Nat.le_trans (Nat.min_le_right _ _) h) hn
theorem mf_row {k:MC} (M:Man k H) (hQ:∀ H',Upd [] H H'->Q k.mf.row H'):callN T (d + 2) i_Manifesto i_row [.ref k.m] H Q E :=
 have z:Upd [] H (H++[AObj.list []]):=.app
 enter fd_Manifesto_row rfl rfl (att (z.get0 M.hm) rfl rfl (Lst.mk _ (z.get0 M.hr)
  (forL (fun j (a:Option AV×AH)=>⟨[some (.ref k.m),some (.ref H.length),a.1],a.2⟩) (fun j=>RowsI H ((k.rs.take j).map fun p=>.tup p.2.vals)) (none,H++[AObj.list []])
   ⟨z,getLast'⟩ (fun n a J=>J.u.get0 M.hr)
   (fun j p a e J=>⟨Lst.mk _ J.o trivial,mth (J.u.get0 (M.ho p (List.mem_of_getElem? e))) rfl (ri_row (J.u.get0 (M.ho p (List.mem_of_getElem? e))) (Lst.mk _ J.o ⟨len_take M.le (by decide),Fxt.mk (_,_) rfl (J.push .refl (map_take_succ e))⟩))⟩)
   fun a J =>
    have x:=J.u.get0 M.hm
    have q:∀ v,v=AV.tup (k.mf.runs.map fun r=>.tup r.vals)->Q (.tup [.int (k.mf.index:Int),.int (k.mf.term:Int),.bytes k.mf.conf,.int (k.mf.seq:Int),v]) a.2:=fun v e=>e▸hQ _ J.u
    att x rfl rfl (att x rfl rfl (att x rfl rfl (att x rfl rfl (Lst.mk _ J.o (q _ (by rw [List.take_length,<-M.eq,List.map_map];rfl)))))))))
end
end Ab
end
section
namespace Ab
open PySem
theorem RI.enc_app (r:RI) (w:List UInt8):r.enc++w=Ab.enc r.level++(Ab.enc r.size++(fix r.check++((Ab.enc r.small.length++r.small)++((Ab.enc r.large.length++r.large)++w)))):=by
 rw [RI.enc,List.append_assoc,List.append_assoc,List.append_assoc,List.append_assoc]
section
variable {r:RI} (h:r.Ok)
include h
theorem RI.Ok.lev:r.level < 18446744073709551616:=Nat.lt_trans h.level (by decide)
theorem RI.Ok.siz:r.size < 18446744073709551616:=Nat.lt_of_le_of_lt h.size (by decide)
theorem RI.Ok.sma:r.small.length < 4294967296:=Nat.lt_of_le_of_lt h.small (by decide)
theorem RI.Ok.lar:r.large.length < 4294967296:=Nat.lt_of_le_of_lt h.large (by decide)
theorem RI.Ok.len:r.enc.length<=550:=by
 rw [RI.enc,List.length_append,List.length_append,List.length_append,List.length_append,List.length_append,List.length_append]
 exact Nat.le_trans (Nat.add_le_add (enc_len64 h.lev) (Nat.add_le_add (enc_len64 h.siz) (Nat.add_le_add_left (Nat.add_le_add (Nat.add_le_add (enc_len32 h.sma) h.small) (Nat.add_le_add (enc_len32 h.lar) h.large)) 4))) (by decide)
end
theorem flat_len:∀ {rs:List RI},(∀ r∈rs,r.Ok)->((rs.map RI.enc).flatten).length<=550 * rs.length
 | [],_=>Nat.le_refl _
 | r::rs,h=>by
  rw [List.map_cons,List.flatten_cons,List.length_append,List.length_cons,Nat.mul_succ,Nat.add_comm]
  exact Nat.add_le_add (flat_len fun x hx=>h x (.tail _ hx)) (h r (.head _)).len
section
variable {m:MF} (h:m.Ok)
include h
theorem MF.Ok.sq:m.seq < 18446744073709551616:=Nat.lt_of_le_of_lt h.seq (by decide)
theorem MF.Ok.cf:m.conf.length < 4294967296:=Nat.lt_of_le_of_lt h.conf (by decide)
theorem MF.Ok.ln:m.runs.length < 18446744073709551616:=Nat.lt_of_le_of_lt h.len (by decide)
theorem MF.Ok.encLen:m.enc.length<=100000:=by
 rw [MF.enc,List.length_append,List.length_append,List.length_append,List.length_append,List.length_append,List.length_append]
 exact Nat.le_trans (Nat.add_le_add (enc_len64 h.index) (Nat.add_le_add (enc_len64 h.term) (Nat.add_le_add (enc_len64 h.sq) (Nat.add_le_add (Nat.add_le_add (enc_len32 h.cf) h.conf) (Nat.add_le_add (enc_len64 h.ln) (Nat.le_trans (flat_len h.runs) (Nat.mul_le_mul_left _ h.len))))))) (by decide)
end
theorem drop_at {α:Type} {xs:List α} {j:Nat} {x:α} (h:xs[j]?=some x):xs.drop j=x::xs.drop (j+1):=by
 obtain ⟨hl,rfl⟩:=List.getElem?_eq_some_iff.mp h
 exact List.drop_eq_getElem_cons hl
noncomputable def encs (rs:List (Nat×RI)):List UInt8:=(rs.map fun p=>p.2.enc).flatten
theorem encs_at {rs:List (Nat×RI)} {j:Nat} {p:Nat×RI} (h:rs[j]?=some p):encs (rs.drop j)=p.2.enc++encs (rs.drop (j+1)):=by rw [drop_at h];rfl
section
variable {d:Nat} {H:AH} {Q:AV->AH->Prop} {E:Nat->AH->Prop}
theorem mf_encode {k:MC} (M:Man k H) (hQ:∀ H',Upd [] H H'->Q (.bytes k.mf.enc) H'):callN T (d + 4) i_Manifesto i_encode [.ref k.m] H Q E :=
 have ok:=M.ok
 have en:∀ {b w:List UInt8} {p:Nat} {G:AH},Snk k.mf.enc H p b w G->G[k.m]?=some (k.mf.obj k.lr):=fun J=>J.u.get0 M.hm
 by
 refine enter fd_Manifesto_encode rfl rfl ⟨rfl,sink_init (H:=H) ok.encLen fun H1 p J1=>⟨rfl,?_⟩⟩
 refine mth J1.hs rfl (att (en J1) rfl rfl (sink_varint J1 ok.index fun H2 J2=>?_))
 refine mth J2.hs rfl (att (en J2) rfl rfl (sink_varint J2 ok.term fun H3 J3=>?_))
 refine mth J3.hs rfl (att (en J3) rfl rfl (sink_varint J3 ok.sq fun H4 J4=>?_))
 refine mth J4.hs rfl (att (en J4) rfl rfl (sink_lengthed J4 ok.cf fun H5 J5=>?_))
 refine mth J5.hs rfl (att (en J5) rfl rfl (Lst.mk _ (J5.u.get0 M.hr) ?_))
 have J5':Snk k.mf.enc H p ([]++enc k.mf.index++enc k.mf.term++enc k.mf.seq++enc k.mf.conf.length++k.mf.conf) (enc (k.rs.map fun p=>AV.ref p.1).length++encs k.rs) H5:=J5.cast (by rw [List.length_map,M.len,encs,<-M.eq,List.map_map];rfl)
 refine sink_varint J5' (by rw [List.length_map,M.len];exact ok.ln) fun H6 J6=>?_
 refine att (en J6) rfl rfl (Lst.mk _ (J6.u.get0 M.hr) ?_)
 refine forL (fun j (a:Option AV×AH×List UInt8)=>⟨[some (.ref k.m),some (.ref H.length),a.1],a.2.1⟩) (fun j a=>Snk k.mf.enc H p a.2.2 (encs (k.rs.drop j)) a.2.1) (none,H6,_) J6 (fun n a J=>J.u.get0 M.hr) (fun j q a e J=>?_) (fun a J=>?_)
 ·have o:=fun {G:AH} (u:Upd [] H G)=>u.get0 (M.ho q (List.mem_of_getElem? e))
  have ok:=M.rok (List.mem_of_getElem? e)
  have Ja:=J.cast ((encs_at e).trans (q.2.enc_app _))
  refine mth Ja.hs rfl (att (o Ja.u) rfl rfl (sink_varint Ja ok.lev fun Hb Jb=>?_))
  refine mth Jb.hs rfl (att (o Jb.u) rfl rfl (sink_varint Jb ok.siz fun Hc Jc=>?_))
  refine mth Jc.hs rfl (att (o Jc.u) rfl rfl (sink_fixed32 Jc ok.check fun Hd Jd=>?_))
  refine mth Jd.hs rfl (att (o Jd.u) rfl rfl (sink_lengthed Jd ok.sma fun He Je=>?_))
  refine mth Je.hs rfl (att (o Je.u) rfl rfl (sink_lengthed Je ok.lar fun Hf Jf=>?_))
  exact Fxt.mk (_,_,_) rfl Jf
 ·refine mth J.hs rfl (sink_done (J.cast (by rw [List.drop_length];rfl)) (hQ _ J.u))
end
end Ab
end
section
namespace Ab
open PySem
section
variable {d:Nat} {H:AH} {Q:AV->AH->Prop} {E:Nat->AH->Prop}
structure DcA where
 rs:List (Nat×RI)
 t8:Option AV
 t9:Option AV
 t10:Option AV
 t11:Option AV
 t12:Option AV
 H:AH
structure DcI (mf:MF) (H:AH) (r:Nat) (a:DcA):Prop where
 c:Crs mf.enc H.length (H++[.inst i_Cursor []]) (((mf.runs.drop a.rs.length).map RI.enc).flatten) a.H
 hr:a.H[r]?=some (.list (a.rs.map fun p=>.ref p.1))
 ho:∀ p∈a.rs,a.H[p.1]?=some p.2.obj/\r < p.1
 eq:a.rs.map (·.2)=mf.runs.take a.rs.length
 lr:H.length < r
theorem drops_at {xs:List RI} {j:Nat} {x:RI} (h:xs[j]?=some x):((xs.drop j).map RI.enc).flatten=x.enc++((xs.drop (j+1)).map RI.enc).flatten:=by rw [drop_at h];rfl
theorem Crs.cast {data w w':List UInt8} {c:Nat} {B H:AH} (J:Crs data c B w H) (e:w=w'):Crs data c B w' H:=e▸J
theorem Crs.app {data w:List UInt8} {c:Nat} {B H G:AH} (J:Crs data c B w H):Crs data c B w (H++G):=⟨J.u.trans .app,J.at'.elim fun a h=>⟨a,Upd.get0 .app h.1,h.2⟩,J.le⟩
theorem Crs.base {data w:List UInt8} {c:Nat} {B H:AH} (J:Crs data c B w H):Crs data c H w H:=⟨.refl,J.at',J.le⟩
theorem Crs.set {data w:List UInt8} {c r:Nat} {B H:AH} {o:AObj} (J:Crs data c B w H) (h:c < r) (hb:B.length<=r):Crs data c B w (H.set r o) :=
 ⟨J.u.fresh (.set (.head _)) hb |>.mono fun _ h=>h,J.at'.elim fun a h2=>⟨a,by rw [List.getElem?_set_ne (Nat.ne_of_gt h)];exact h2.1,h2.2⟩,J.le⟩
theorem Crs.mth {data w:List UInt8} {c m:Nat} {B H:AH} (J:Crs data c B w H) {K:Nat->Prop} (hc:(T.fn i_Cursor m).isSome=true) (hf:∀ x y,fget m [(i_data,x),(i_at,y)]=none) (h:K i_Cursor) :
  Ins H c fun c fs=>(T.fn c m).isSome=true/\c≠0/\fget m fs=none/\K c:=J.at'.elim fun a h2=>⟨_,_,h2.1,hc,by decide,hf _ _,h⟩
theorem Crs.old {data w:List UInt8} {H G:AH} {o:AObj} (J:Crs data H.length (H++[o]) w G):Upd [] H G:=Upd.fresh .app J.u (Nat.le_refl _)
theorem Crs.lt {data w:List UInt8} {c:Nat} {B H:AH} (J:Crs data c B w H):c < H.length:=J.at'.elim fun a h=>(List.getElem?_eq_some_iff.mp h.1).1
theorem DcI.lt {mf:MF} {r:Nat} {a:DcA} (I:DcI mf H r a):a.rs.length<=mf.runs.length:=by
 have e:=congrArg List.length I.eq
 rw [List.length_map,List.length_take] at e
 exact e▸Nat.min_le_right _ _
theorem DcI.step {mf:MF} {r:Nat} {a:DcA} {x:RI} {G:AH} (I:DcI mf H r a) (e:mf.runs[a.rs.length]?=some x) (J:Crs mf.enc H.length a.H (((mf.runs.drop (a.rs.length+1)).map RI.enc).flatten) G) {t8 t9 t10 t11 t12:Option AV} :
  DcI mf H r ⟨a.rs++[(G.length,x)],t8,t9,t10,t11,t12,(G++[x.obj]).set r (.list ((a.rs.map fun p=>.ref p.1)++[.ref G.length]))⟩:=by
 have nr:r∉[H.length]:=fun q=>Nat.ne_of_gt I.lr (List.mem_singleton.mp q)
 have hr:=J.u.get I.hr nr
 have lr:=(List.getElem?_eq_some_iff.mp hr).1
 have hr2:=Upd.get0 (H':=G++[x.obj]) .app hr
 have J2:=J.app (G:=[x.obj])
 have hl:(a.rs++[(G.length,x)]).length=a.rs.length+1:=List.length_append
 refine ⟨⟨?_,?_,J.le⟩,?_,fun p hp=>?_,?_,I.lr⟩
 ·exact Upd.fresh (I.c.u.trans J2.u) (.set (.head _)) (Nat.le_trans (Nat.le_of_eq List.length_append) I.lr) |>.mono fun _ h=>h
 ·rw [hl]
  exact J2.at'.elim fun a h2=>⟨a,by rw [List.getElem?_set_ne (Nat.ne_of_gt I.lr)];exact h2.1,h2.2⟩
 ·rw [List.map_append]
  exact getSet hr2
 ·rcases List.mem_append.mp hp with hp|hp
  ·obtain ⟨h1,h2⟩:=I.ho p hp
   refine ⟨?_,h2⟩
   rw [List.getElem?_set_ne (Nat.ne_of_lt h2)]
   exact Upd.get0 .app (J.u.get h1 fun q=>Nat.ne_of_gt (Nat.lt_trans I.lr h2) (List.mem_singleton.mp q))
  ·obtain rfl:=List.mem_singleton.mp hp
   refine ⟨?_,lr⟩
   rw [List.getElem?_set_ne (Nat.ne_of_lt lr)]
   exact getLast'
 ·rw [hl,List.take_add_one,e,List.map_append,I.eq]
  rfl
theorem ltApp {H:AH} {p:Nat} {o o':AObj} (e:H[p]?=some o):p < (H++[o']).length:=List.length_append▸Nat.lt_succ_of_lt (List.getElem?_eq_some_iff.mp e).1
theorem DcI.man {mf:MF} {r:Nat} {a:DcA} (I:DcI mf H r a) (ok:mf.Ok) (ej:a.rs.length=mf.runs.length):Man ⟨(a.H++[mf.obj r]).length,a.H.length,r,mf,a.rs⟩ (a.H++[mf.obj r]):=by
 have eq:=I.eq
 rw [ej,List.take_length] at eq
 exact ⟨getLast',Upd.get0 .app I.hr,fun p hp=>Upd.get0 .app (I.ho p hp).1,List.length_append▸Nat.lt_succ_self _,ltApp I.hr,fun p hp=>ltApp (I.ho p hp).1,eq,ok⟩
theorem mf_decode {mf:MF} (ok:mf.Ok) (hQ:∀ H' k,Upd [] H H'->Man k H'->k.mf=mf->k.N=H'.length->Q (.ref k.m) H'):callN T (d + 5) 0 i_decode_manifesto [.bytes mf.enc] H Q E:=by
 refine enter fd_decode_manifesto rfl rfl ⟨rfl,cursor_init (H:=H) ok.encLen fun H1 J1=>⟨rfl,?_⟩⟩
 refine J1.mth rfl (fun _ _=>rfl) (cursor_varint J1 ok.index fun H2 J2=>?_)
 refine J2.mth rfl (fun _ _=>rfl) (cursor_varint J2 ok.term fun H3 J3=>?_)
 refine J3.mth rfl (fun _ _=>rfl) (cursor_varint J3 ok.sq fun H4 J4=>?_)
 refine ifF (Int.not_lt.mpr (Int.ofNat_le.mpr ok.seq)) ?_
 refine J4.mth rfl (fun _ _=>rfl) (cursor_lengthed J4 ok.cf fun H5 J5=>?_)
 refine J5.mth rfl (fun _ _=>rfl) (cursor_varint J5 ok.ln fun H6 J6=>?_)
 refine whl (fun a:DcA=>mf.runs.length - a.rs.length) (fun a=>⟨[some (.bytes mf.enc),some (.ref H.length),some (.int (mf.index:Int)),some (.int (mf.term:Int)),some (.int (mf.seq:Int)),some (.bytes mf.conf),some (.int (mf.runs.length:Int)),some (.ref H6.length),a.t8,a.t9,a.t10,a.t11,a.t12],a.H⟩) (fun a=>DcI mf H H6.length a)
  ⟨[],none,none,none,none,none,H6++[.list []]⟩ ⟨J6.app,getLast',(fun _ q=>nomatch q),rfl,J6.lt⟩ fun a I=>?_
 refine Lst.mk _ I.hr ?_
 have el:(a.rs.map fun p=>AV.ref p.1).length=a.rs.length:=List.length_map _
 rcases Nat.lt_or_ge a.rs.length mf.runs.length with hj|hj
 ·have e:mf.runs[a.rs.length]?=some mf.runs[a.rs.length]:=List.getElem?_eq_getElem hj
  have rok:=ok.runs _ (List.getElem_mem hj)
  generalize mf.runs[a.rs.length]=x at e rok
  have Ja:=I.c.base.cast ((drops_at e).trans (x.enc_app _))
  refine ifT (Int.ofNat_lt.mpr (el▸hj)) ?_
  refine Ja.mth rfl (fun _ _=>rfl) (cursor_varint Ja rok.lev fun Hb Jb=>?_)
  refine ifF (Int.not_le.mpr (Int.ofNat_lt.mpr rok.level)) ?_
  refine Jb.mth rfl (fun _ _=>rfl) (cursor_varint Jb rok.siz fun Hc Jc=>?_)
  refine Jc.mth rfl (fun _ _=>rfl) (cursor_fixed32 Jc rok.check fun Hd Jd=>?_)
  refine Jd.mth rfl (fun _ _=>rfl) (cursor_lengthed Jd rok.sma fun He Je=>?_)
  refine Je.mth rfl (fun _ _=>rfl) (cursor_lengthed Je rok.lar fun Hf Jf=>?_)
  have hr:=Jf.u.get I.hr fun q=>Nat.ne_of_gt I.lr (List.mem_singleton.mp q)
  exact ⟨Lst.mk _ hr trivial,rfl,ri_init x ⟨rfl,Lst.mk _ (Upd.get0 .app hr) ⟨Nat.lt_of_le_of_lt (Nat.le_trans (el▸I.lt) ok.len) (by decide),Nxt.mk ⟨_,_,_,_,_,_,_⟩ rfl (by rw [List.length_append];exact Nat.sub_lt_sub_left hj (Nat.lt_succ_self _)) (I.step e Jf)⟩⟩⟩
 ·have ej:a.rs.length=mf.runs.length:=Nat.le_antisymm I.lt hj
  have J:=I.c.cast (w':=[]) (by rw [ej,List.drop_length];rfl)
  refine ifF (Int.not_lt.mpr (Int.ofNat_le.mpr (el▸hj))) ?_
  refine J.mth rfl (fun _ _=>rfl) (cursor_done J ⟨rfl,mf_init mf ⟨rfl,?_⟩⟩)
  exact hQ _ _ (J.old.trans .app) (I.man ok ej) rfl rfl
end
end Ab
end
section
namespace Ab
open PySem
abbrev Piece:=Nat×List UInt8
abbrev Cell:=List (Option UInt8)
def cat (c:Cell) (i:Nat):Option UInt8:=c[i]?.getD none
theorem cat_of {c:Cell} {i:Nat} {o:Option UInt8} (h:c[i]?=some o):cat c i=o:=by rw [cat,h];rfl
theorem cat_some {c:Cell} {i:Nat} {x:UInt8} (h:cat c i=some x):c[i]?=some (some x):=by
 unfold cat at h
 cases e:c[i]? with
 | none=>rw [e] at h;cases h
 | some o=>rw [e] at h;exact congrArg some h
theorem at_cat {c:Cell} {i:Nat} (h:i < c.length):c[i]?=some (cat c i):=by rw [cat,List.getElem?_eq_getElem h];rfl
def layR:List Piece->Nat->List UInt8->List Piece
 | [],a,b=>[(a,b)]
 | p::r,a,b=>if p.1 + p.2.length=a then (p.1,p.2++b)::r else (a,b)::p::r
theorem layT {p:Piece} {r:List Piece} {a:Nat} {b:List UInt8} (h:p.1 + p.2.length=a):layR (p::r) a b=(p.1,p.2++b)::r:=if_pos h
theorem layN {p:Piece} {r:List Piece} {a:Nat} {b:List UInt8} (h:¬ p.1 + p.2.length=a):layR (p::r) a b=(a,b)::p::r:=if_neg h
def strR (c:Cell):Nat->List Piece
 | 0=>[]
 | n+1=>(cat c n).elim (strR c n) fun x=>layR (strR c n) n [x]
def str (c:Cell):List Piece:=(strR c c.length).reverse
section
variable {c:Cell}
theorem strR_no {n:Nat} (h:cat c n=none):strR c (n+1)=strR c n:=by rw [strR,h];rfl
theorem strR_yes {n:Nat} {x:UInt8} (h:cat c n=some x):strR c (n+1)=layR (strR c n) n [x]:=by rw [strR,h];rfl
theorem strR_none {p q:Nat} (hpq:p<=q) (h:∀ i,p<=i->i < q->cat c i=none):strR c q=strR c p:=by
 induction hpq with
 | refl=>rfl
 | step l ih=>rw [strR_no (h _ l (Nat.lt_succ_self _)),ih fun i h1 h2=>h i h1 (Nat.lt_succ_of_lt h2)]
theorem layR_snoc (a:Nat) (b:List UInt8) (x:UInt8):∀ R:List Piece,layR (layR R a b) (a + b.length) [x]=layR R a (b++[x])
 | []=>if_pos rfl
 | p::r=>by
  by_cases h:p.1 + p.2.length=a
  ·rw [layT h,layT h,layT (by rw [List.length_append,<-Nat.add_assoc,h]),List.append_assoc]
  ·rw [layN h,layN h,layT rfl]
theorem strR_bytes {a:Nat} {b:List UInt8} (hb:∀ t x,b[t]?=some x->cat c (a + t)=some x):∀ k,k < b.length->strR c (a + (k+1))=layR (strR c a) a (b.take (k+1))
 | 0,h=>by
  have e:=List.getElem?_eq_getElem h
  rw [List.take_add_one,e]
  exact strR_yes (hb 0 _ e)
 | k+1,h=>by
  have e:=List.getElem?_eq_getElem h
  have l:(b.take (k+1)).length=k+1:=List.length_take_of_le (Nat.le_of_lt h)
  rw [List.take_add_one,e]
  exact ((strR_yes (hb _ _ e)).trans (congrArg (fun R=>layR R (a + (k+1)) [b[k+1]]) (strR_bytes hb k (Nat.lt_of_succ_lt h)))).trans ((congrArg (fun l=>layR (layR (strR c a) a (b.take (k+1))) (a + l) [b[k+1]]) l.symm).trans (layR_snoc a _ _ _))
theorem lay_step {p a:Nat} {b:List UInt8} (hb0:0 < b.length) (hpa:p<=a) (hn:∀ i,p<=i->i < a->cat c i=none) (hb:∀ t x,b[t]?=some x->cat c (a + t)=some x):layR (strR c p) a b=strR c (a + b.length):=by
 have e:=strR_bytes hb (b.length - 1) (Nat.sub_lt hb0 Nat.one_pos)
 rw [Nat.sub_add_cancel hb0,List.take_length,strR_none hpa hn] at e
 exact e.symm
def lastE:List Piece->Nat
 | []=>0
 | p::_=>p.1 + p.2.length
def Dec (c:Cell):List Piece->Nat->Prop
 | [],n=>∀ i,0<=i->i < n->cat c i=none
 | p::R,n=>((0 < p.2.length/\p.1 + p.2.length<=n)/\∀ i,p.1 + p.2.length<=i->i < n->cat c i=none)/\(∀ t x,p.2[t]?=some x->cat c (p.1 + t)=some x)/\Dec c R p.1
theorem Dec.le:∀ {R:List Piece} {n:Nat},Dec c R n->lastE R<=n
 | [],_,_=>Nat.zero_le _
 | _::_,_,h=>h.1.1.2
theorem Dec.no:∀ {R:List Piece} {n:Nat},Dec c R n->∀ i,lastE R<=i->i < n->cat c i=none
 | [],_,h=>h
 | _::_,_,h=>h.1.2
theorem upto {n i:Nat} {P:Nat->Prop} (h:P n) (hi:i < n+1) (k:i < n->P i):P i:=(Nat.lt_or_ge i n).elim k fun g=>Nat.le_antisymm (Nat.le_of_lt_succ hi) g▸h
theorem Dec.more:∀ {R:List Piece} {n:Nat},Dec c R n->cat c n=none->Dec c R (n+1)
 | [],_,h,e=>fun i h1 h2=>upto (P:=fun i=>cat c i=none) e h2 (h i h1)
 | _::_,_,h,e=>⟨⟨⟨h.1.1.1,Nat.le_succ_of_le h.1.1.2⟩,fun i h1 h2=>upto (P:=fun i=>cat c i=none) e h2 (h.1.2 i h1)⟩,h.2⟩
theorem one_at {n:Nat} {x:UInt8} (e:cat c n=some x):∀ t y,[x][t]?=some y->cat c (n + t)=some y
 | 0,_,q=>e.trans q
 | _+1,_,q=>nomatch q
theorem Dec.lay:∀ {R:List Piece} {n:Nat} {x:UInt8},Dec c R n->cat c n=some x->Dec c (layR R n [x]) (n+1)
 | [],n,x,h,e=>⟨⟨⟨Nat.one_pos,Nat.le_refl _⟩,fun i h1 h2=>absurd h2 (Nat.not_lt.mpr h1)⟩,one_at e,h⟩
 | p::r,n,x,h,e=>by
  by_cases g:p.1 + p.2.length=n
  ·rw [layT g]
   have l:p.1 + (p.2++[x]).length=n+1:=by rw [List.length_append,<-Nat.add_assoc,g];rfl
   refine ⟨⟨⟨by rw [List.length_append];exact Nat.succ_pos _,Nat.le_of_eq l⟩,fun i h1 h2=>absurd h2 (Nat.not_lt.mpr (l▸h1))⟩,fun t y q=>?_,h.2.2⟩
   rcases Nat.lt_or_ge t p.2.length with k|k
   ·rw [List.getElem?_append_left k] at q
    exact h.2.1 t y q
   ·rw [List.getElem?_append_right k] at q
    have:=one_at e _ _ q
    rw [<-g,Nat.add_assoc,Nat.add_sub_cancel' k] at this
    exact this
  ·rw [layN g]
   exact ⟨⟨⟨Nat.one_pos,Nat.le_refl _⟩,fun i h1 h2=>absurd h2 (Nat.not_lt.mpr h1)⟩,one_at e,h⟩
theorem dec_str (n:Nat):Dec c (strR c n) n:=by
 induction n with
 | zero=>exact fun i _ h=>absurd h (Nat.not_lt_zero _)
 | succ n ih =>
  cases e:cat c n with
  | none=>exact strR_no e▸ih.more e
  | some x=>exact strR_yes e▸ih.lay e
theorem Dec.rest {n:Nat}:∀ {R1 R2:List Piece} {n:Nat},Dec c (R1++R2) n->∃ m,m<=n/\Dec c R2 m
 | [],_,n,h=>⟨n,Nat.le_refl _,h⟩
 | p::R1,R2,n,h=>(Dec.rest (n:=n) h.2.2).elim fun m k=>⟨m,Nat.le_trans k.1 (Nat.le_trans (Nat.le_add_right _ _) h.1.1.2),k.2⟩
theorem dec_at (j:Nat):∃ m,m<=c.length/\Dec c ((str c).take j).reverse m:=by
 refine Dec.rest (n:=0) (R1:=((str c).drop j).reverse) ?_
 rw [<-List.reverse_append,List.take_append_drop,str,List.reverse_reverse]
 exact dec_str _
theorem take_rev {α:Type} {xs:List α} {j:Nat} {x:α} (h:xs[j]?=some x):(xs.take (j+1)).reverse=x::(xs.take j).reverse:=by
 rw [List.take_add_one,h,List.reverse_append];rfl
end
def holeF:Cell->Nat
 | []=>0
 | none::_=>0
 | some _::c=>holeF c+1
theorem holeF_of:∀ {c:Cell} {q:Nat},(∀ i,i < q->(cat c i).isSome=true)->q<=c.length->(q < c.length->cat c q=none)->holeF c=q
 | [],q,_,h,_=>(Nat.le_zero.mp h).symm
 | none::c,0,_,_,_=>rfl
 | none::c,q+1,h,_,_=>nomatch h 0 (Nat.succ_pos _)
 | some x::c,0,_,_,h=>nomatch h (Nat.succ_pos _)
 | some x::c,q+1,h1,h2,h3=>congrArg (·+1) (holeF_of (c:=c) (fun i hi=>h1 (i+1) (Nat.succ_lt_succ hi)) (Nat.le_of_succ_le_succ h2) fun h=>h3 (Nat.succ_lt_succ h))
def fill (c:Cell) (o:Nat) (pc:List UInt8):Cell:=(List.range c.length).map fun i=>(cat c i).or (if o<=i then pc[i - o]? else none)
section
variable {c:Cell} {o i:Nat} {pc:List UInt8} {x:UInt8}
theorem fillLen:(fill c o pc).length=c.length:=by rw [fill,List.length_map,List.length_range]
theorem fill_at (h:i < c.length):cat (fill c o pc) i=(cat c i).or (if o<=i then pc[i - o]? else none):=cat_of (by rw [fill,List.getElem?_map,List.getElem?_range h];rfl)
theorem cat_lt (h:cat c i=some x):i < c.length:=(List.getElem?_eq_some_iff.mp (cat_some h)).1
theorem cat_ge (h:c.length<=i):cat c i=none:=by rw [cat,List.getElem?_eq_none h];rfl
theorem fill_some (h:cat c i=some x):cat (fill c o pc) i=some x:=by rw [fill_at (cat_lt h),h];rfl
theorem fill_none (h:cat c i=none) (hi:i < o\/o + pc.length<=i):cat (fill c o pc) i=none:=by
 rcases Nat.lt_or_ge i c.length with g|g
 ·rw [fill_at g,h]
  rcases hi with hi|hi
  ·exact if_neg (Nat.not_le.mpr hi)
  ·exact (if_pos (Nat.le_trans (Nat.le_add_right _ _) hi)).trans (List.getElem?_eq_none (Nat.le_sub_of_add_le' hi))
 ·exact cat_ge (fillLen.symm▸g)
theorem fill_new (hl:i < c.length) (h:cat c i=none) (hi:o<=i):cat (fill c o pc) i=pc[i - o]?:=by rw [fill_at hl,h];exact if_pos hi
theorem cell_ext {c c':Cell} (hl:c.length=c'.length) (h:∀ i,i < c'.length->cat c i=cat c' i):c=c':=by
 refine List.ext_getElem? fun i=>?_
 rcases Nat.lt_or_ge i c'.length with g|g
 ·rw [at_cat g,at_cat (hl▸g),h i g]
 ·rw [List.getElem?_eq_none g,List.getElem?_eq_none (hl▸g)]
def New (c:Cell) (o e:Nat):Prop:=∃ i,o<=i/\i < e/\cat c i=none
theorem fill_same (h:¬ New c o (o + pc.length)):fill c o pc=c:=by
 refine cell_ext fillLen fun i g=>?_
 cases e:cat c i with
 | some x=>exact fill_some e
 | none=>exact fill_none e ((Nat.lt_or_ge i o).imp id fun q=>Nat.not_lt.mp fun l=>h ⟨i,q,l,e⟩)
end
end Ab
end
section
namespace Ab
open PySem
theorem gLast {α:Type} (A:List α) (x:α):(A++[x])[A.length]?=some x:=by rw [List.getElem?_append_right (Nat.le_refl _),Nat.sub_self];rfl
theorem sLast {α:Type} (A:List α) (x y:α):(A++[x]).set A.length y=A++[y]:=by rw [List.set_append_right _ _ (Nat.le_refl _),Nat.sub_self];rfl
theorem rng_at {α:Type} {f:Nat->α} {n r:Nat} (h:r < n):((List.range n).map f)[r]?=some (f r):=by rw [List.getElem?_map,List.getElem?_range h];rfl
noncomputable abbrev pv (p:Piece):AV:=.tup [.int (p.1:Int),.bytes p.2]
noncomputable abbrev pcs (c:Cell):AObj:=.list ((str c).map pv)
noncomputable abbrev pcR (R:List Piece):AObj:=.list (R.map pv).reverse
theorem pcs_eq (c:Cell):pcs c=pcR (strR c c.length):=by rw [pcs,str,List.map_reverse]
noncomputable abbrev box (m lim hl:Nat):AObj:=.inst i_Inbox [(i_manifesto,.ref m),(i_piece_limit,.int (lim:Int)),(i_held,.ref hl)]
noncomputable abbrev refs (n:Nat) (f:Nat->Nat):AObj:=.list ((List.range n).map fun r=>.ref (f r))
noncomputable def MC.n (k:MC):Nat:=k.rs.length
noncomputable def MC.p (k:MC) (r:Nat):Nat×RI:=k.rs.getD r (0,⟨0,0,0,[],[]⟩)
section
variable {k:MC} {H:AH} {r:Nat}
theorem MC.at (h:r < k.n):k.rs[r]?=some (k.p r):=by rw [MC.p,List.getD_eq_getElem?_getD,List.getElem?_eq_getElem h];rfl
theorem MC.map {α:Type} (f:Nat×RI->α):k.rs.map f=(List.range k.n).map fun r=>f (k.p r):=by
 refine List.ext_getElem? fun i=>?_
 rcases Nat.lt_or_ge i k.n with h|h
 ·rw [rng_at h,List.getElem?_map,MC.at h];rfl
 ·rw [List.getElem?_eq_none (by rw [List.length_map];exact h),List.getElem?_eq_none (by rw [List.length_map,List.length_range];exact h)]
theorem Man.refs (M:Man k H):H[k.lr]?=some (refs k.n fun r=>(k.p r).1):=by rw [M.hr,MC.map]
theorem Man.obj (M:Man k H) (h:r < k.n):H[(k.p r).1]?=some (k.p r).2.obj:=M.ho _ (List.mem_of_getElem? (MC.at h))
theorem Man.rk (M:Man k H) (h:r < k.n):(k.p r).2.Ok:=M.rok (List.mem_of_getElem? (MC.at h))
end
structure SC where
 k:MC
 b:Nat
 hl:Nat
 lim:Nat
 cl:Nat
structure Sst where
 h:Nat->Nat
 l:Nat->Nat
 c:Nat->Cell
structure Box (s:SC) (z:Sst) (H:AH):Prop where
 man:Man s.k H
 hb:H[s.b]?=some (box s.k.m s.lim s.hl)
 hh:H[s.hl]?=some (refs s.k.n z.h)
 ho:∀ r,r < s.k.n->H[z.h r]?=some (pcs (z.c r))
 sz:∀ r,r < s.k.n->(s.k.p r).2.size=(z.c r).length
 l1:s.lim<=1000
 l0:0 < s.lim
 hN:s.k.N<=s.hl
 ne:∀ r,r < s.k.n->z.h r≠s.hl
section
variable {s:SC} {z:Sst} {H:AH} {r:Nat}
theorem Box.le (B:Box s z H) (h:r < s.k.n):(z.c r).length<=200:=B.sz r h▸(B.man.rk h).size
theorem Box.nl (B:Box s z H):s.k.n<=LIM:=Nat.le_trans B.man.le (by decide)
end
section
variable {d:Nat} {H:AH} {Q:AV->AH->Prop} {E:Nat->AH->Prop}
theorem lay_spec {k a:Nat} {b:List UInt8} {R:List Piece} (hk:H[k]?=some (pcR R)) (hl:R.length < LIM) (hp:lastE R + b.length<=LIM) (hQ:Q .none (H.set k (pcR (layR R a b)))):callN T (d+1) 0 i_lay [.ref k,.int (a:Int),.bytes b] H Q E:=by
 have hl':(R.map pv).reverse.length < LIM:=by rw [List.length_reverse,List.length_map];exact hl
 have q:∀ L,L=(R.map pv).reverse++[pv (a,b)]->layR R a b=(a,b)::R->Q .none (H.set k (.list L)):=fun L e1 e2=>by
  rw [pcR,e2,List.map_cons,List.reverse_cons,<-e1] at hQ
  exact hQ
 refine enter fd_lay rfl rfl (Lst.mk _ hk ?_)
 cases R with
 | nil=>exact ⟨Lst.mk _ hk trivial,Lst.mk _ hk ⟨hl',q _ rfl rfl⟩⟩
 | cons p r =>
  have e:(List.map pv (p::r)).reverse=(r.map pv).reverse++[pv p]:=by rw [List.map_cons,List.reverse_cons]
  have el:((r.map pv).reverse++[pv p]).length=(r.map pv).reverse.length+1:=List.length_append
  rw [pcR,e] at hk
  rw [e] at hl' q ⊢
  have ei:(((r.map pv).reverse++[pv p]).length:Int) - 1=((r.map pv).reverse.length:Nat):=by rw [el];exact Int.add_sub_cancel ((r.map pv).reverse.length:Int) 1
  refine ifT (el▸Int.ofNat_lt.mpr (Nat.succ_pos _)) (Lst.mk _ hk (Nt.mk (a:=.int (_ - 1)) _ (congrArg AV.int ei) (Lst.mk _ hk (At.mk _ (gLast _ _) ⟨rfl,?_⟩))))
  rcases Decidable.em (p.1 + p.2.length=a) with h|h
  ·refine ifT (Int.ofNat_inj.mpr h) ⟨Nat.le_trans (Nat.add_le_add_right (Nat.le_add_left _ _) _) hp,Lst.mk _ hk (Nt.mk (a:=.int (_ - 1)) _ (congrArg AV.int ei) (Lst.mk _ hk ⟨el▸Nat.lt_succ_self _,?_⟩))⟩
   rw [layT h,pcR,List.map_cons,List.reverse_cons] at hQ
   rw [sLast]
   exact hQ
  ·exact ifF (fun g=>h (Int.ofNat_inj.mp g)) ⟨Lst.mk _ hk trivial,Lst.mk _ hk ⟨hl',q _ rfl (layN h)⟩⟩
theorem first_hole_spec {s:SC} {z:Sst} {r:Nat} (B:Box s z H) (hr:r < s.k.n) (hQ:Q (.int (holeF (z.c r):Int)) H):callN T (d+1) i_Inbox i_first_hole [.ref s.b,.int (r:Int)] H Q E:=by
 have K:∀ q,(∀ i,i < q->(cat (z.c r) i).isSome=true)->q<=(z.c r).length->(q < (z.c r).length->cat (z.c r) q=none)->Q (.int (q:Int)) H:=fun q h1 h2 h3=>holeF_of h1 h2 h3▸hQ
 have ho:=B.ho r hr
 refine enter fd_Inbox_first_hole rfl rfl (att B.hb rfl rfl (Lst.mk _ B.hh (At.mk _ (rng_at hr) (Lst.mk _ ho ?_))))
 generalize z.c r=c at *
 refine forL (fun j (a:Option AV×Option AV)=>⟨[some (.ref s.b),some (.int (r:Int)),some (.int (lastE ((str c).take j).reverse:Int)),a.1,a.2],H⟩) (fun j _=>∀ i,i < lastE ((str c).take j).reverse->(cat c i).isSome=true) (none,none)
  (fun i hi=>absurd hi (Nat.not_lt_zero _)) (fun _ _ _=>ho) (fun j p a hp J=>⟨rfl,?_⟩) (fun a J=>?_)
 ·obtain ⟨m,hm,D⟩:=dec_at (c:=c) (j+1)
  rw [take_rev hp] at D
  rcases Nat.lt_or_ge (lastE ((str c).take j).reverse) p.1 with h|h
  ·have hl:=Nat.le_trans h (Nat.le_trans (Nat.le_add_right _ _) (Nat.le_trans D.1.1.2 hm))
   exact ifT (Int.ofNat_lt.mpr h) (K _ J (Nat.le_of_lt hl) fun _=>D.2.2.no _ (Nat.le_refl _) h)
  ·refine ifF (Int.not_lt.mpr (Int.ofNat_le.mpr h)) (Fxt.mk (_,_) (by rw [take_rev hp];rfl) fun i hi=>?_)
   rw [take_rev hp] at hi
   rcases Nat.lt_or_ge i p.1 with g|g
   ·exact J i (Nat.lt_of_lt_of_le g h)
   ·have e:=D.2.1 _ _ (List.getElem?_eq_getElem (Nat.sub_lt_left_of_lt_add g hi))
    rw [Nat.add_sub_cancel' g] at e
    exact e▸rfl
 ·obtain ⟨m,hm,D⟩:=dec_at (c:=c) (str c).length
  have D2:=dec_str (c:=c) c.length
  have e:((str c).take (str c).length).reverse=strR c c.length:=by rw [List.take_length,str,List.reverse_reverse]
  rw [e] at J ⊢
  exact K _ J D2.le fun h=>D2.no _ (Nat.le_refl _) h
def missF (c:Nat->Cell):Nat->Nat->Option (Nat×Nat)
 | 0,_=>none
 | n+1,r=>if holeF (c r) < (c r).length then some (r,holeF (c r)) else missF c n (r+1)
noncomputable def mval (o:Option (Nat×Nat)):AV:=o.elim .none fun p=>.tup [.int (p.1:Int),.int (p.2:Int)]
section
variable {c:Nat->Cell} {n r:Nat}
theorem miss_t (h:r < n) (g:holeF (c r) < (c r).length):missF c (n - r) r=some (r,holeF (c r)):=by
 rw [<-Nat.succ_pred_eq_of_pos (Nat.sub_pos_of_lt h)]
 exact if_pos g
theorem miss_f (h:r < n) (g:¬ holeF (c r) < (c r).length):missF c (n - r) r=missF c (n - (r+1)) (r+1):=by
 rw [<-Nat.succ_pred_eq_of_pos (Nat.sub_pos_of_lt h)]
 exact if_neg g
end
theorem len_refs {n:Nat} {f:Nat->AV}:((List.range n).map f).length=n:=by rw [List.length_map,List.length_range]
theorem missing_spec {s:SC} {z:Sst} (B:Box s z H) (hQ:Q (mval (missF z.c s.k.n 0)) H):callN T (d + 2) i_Inbox i_missing [.ref s.b] H Q E:=by
 have L:∀ {P:Nat->Prop},P s.k.n->P ((List.range s.k.n).map fun r=>AV.ref (z.h r)).length:=fun h=>len_refs.symm▸h
 have S:∀ {P:Nat->Prop} {r},r < s.k.n->P (z.c r).length->P (s.k.p r).2.size:=fun hr h=>(B.sz _ hr).symm▸h
 refine enter fd_Inbox_missing rfl rfl (att B.hb rfl rfl (Lst.mk _ B.hh (L (P:=fun n=>n<=LIM/\ForI (rngItems n) none _ _ _) ⟨B.nl,?_⟩)))
 refine forN (fun j (a:Option AV×Option AV)=>⟨[some (.ref s.b),a.1,a.2],H⟩) (fun j _=>missF z.c s.k.n 0=missF z.c (s.k.n - j) j) (none,none) rfl (fun j a hj J=>?_) fun a J=>?_
 ·refine mth B.hb rfl (first_hole_spec B hj (att B.hb rfl rfl (att B.man.hm rfl rfl (Lst.mk _ B.man.refs (At.mk _ (rng_at hj) (att (B.man.obj hj) rfl rfl ?_))))))
  refine S (P:=fun l=>ifb (decide ((holeF (z.c j):Int) < (l:Int))) _ _) hj ?_
  rcases Decidable.em (holeF (z.c j) < (z.c j).length) with h|h
  ·refine ifT (Int.ofNat_lt.mpr h) ?_
   rw [J,miss_t hj h] at hQ
   exact hQ
  ·exact ifF (fun g=>h (Int.ofNat_lt.mp g)) (Fxt.mk (_,_) rfl (J.trans (miss_f hj h)))
 ·rw [J,Nat.sub_self] at hQ
  exact hQ
theorem whole_spec {s:SC} {z:Sst} (B:Box s z H) (hQ:Q (.bool (missF z.c s.k.n 0).isNone) H):callN T (d + 3) i_Inbox i_whole [.ref s.b] H Q E:=by
 refine enter fd_Inbox_whole rfl rfl (mth B.hb rfl (missing_spec B ?_))
 revert hQ
 cases missF z.c s.k.n 0 with
 | none=>exact fun hQ=>⟨rfl,hQ⟩
 | some p=>exact fun hQ=>⟨rfl,hQ⟩
noncomputable def prow (n:Nat) (c:Nat->Cell):AV:=.tup ((List.range n).map fun r=>AV.tup ((str (c r)).map pv))
theorem row_spec {s:SC} {z:Sst} (B:Box s z H) (hQ:∀ H',Upd [] H H'->Q (.tup [s.k.mf.row,prow s.k.n z.c]) H'):callN T (d + 3) i_Inbox i_row [.ref s.b] H Q E:=by
 have z0:Upd [] H (H++[AObj.list []]):=.app
 refine enter fd_Inbox_row rfl rfl (att (z0.get0 B.hb) rfl rfl (Lst.mk _ (z0.get0 B.hh) ?_))
 refine forL (fun j (a:Option AV×AH)=>⟨[some (.ref s.b),some (.ref H.length),a.1],a.2⟩) (fun j=>RowsI H (((List.range s.k.n).take j).map fun r=>AV.tup ((str (z.c r)).map pv))) (none,H++[.list []])
  ⟨z0,getLast'⟩ (fun n a J=>J.u.get0 B.hh) (fun j r a e J=>?_) fun a J=>?_
 ·have hr:=(List.getElem?_eq_some_iff.mp e).2▸List.getElem_mem (List.getElem?_eq_some_iff.mp e).1
  exact ⟨Lst.mk _ J.o trivial,Lst.mk _ (J.u.get0 (B.ho r (List.mem_range.mp hr))) (Lst.mk _ J.o ⟨len_take (n:=150) (List.length_range.symm▸B.man.le) (by decide),Fxt.mk (_,_) rfl (J.push .refl (map_take_succ e))⟩)⟩
 ·refine att (J.u.get0 B.hb) rfl rfl (mth (J.u.get0 B.man.hm) rfl (mf_row (B.man.upd0 J.u) fun H2 u2=>Lst.mk _ (u2.get0 J.o) ?_))
  rw [List.take_length]
  exact hQ _ (J.u.trans u2)
theorem take_no {s:SC} {z:Sst} {r o:Int} {pc:List UInt8} (B:Box s z H) (hno:r < 0\/(s.k.n:Int)<=r\/o < 0\/∃ i:Nat,r=i/\i < s.k.n/\((z.c i).length:Int) < o + pc.length) (hQ:Q (.bool false) H) :
  callN T (d + 2) i_Inbox i_take [.ref s.b,.int r,.int o,.bytes pc] H Q E:=by
 refine enter fd_Inbox_take rfl rfl ?_
 rcases Decidable.em (r < 0) with c1|c1
 ·exact ifT c1 (ifT c1 hQ)
 refine ifF c1 (att B.hb rfl rfl (Lst.mk _ B.hh ?_))
 rcases Decidable.em ((((List.range s.k.n).map fun r=>AV.ref (z.h r)).length:Int)<=r) with c2|c2
 ·exact ifT c2 (ifT c2 hQ)
 refine ifF c2 ?_
 rcases Decidable.em (o < 0) with c3|c3
 ·exact ifT c3 hQ
 rw [len_refs] at c2
 obtain ⟨i,rfl,hi,hl⟩:=hno.elim (absurd · c1) (Or.elim · (absurd · c2) (Or.elim · (absurd · c3) id))
 exact ifF c3 (att B.hb rfl rfl (att B.man.hm rfl rfl (Lst.mk _ B.man.refs (At.mk _ (rng_at hi) (att (B.man.obj hi) rfl rfl (ifT (B.sz i hi▸hl) hQ))))))
end
end Ab
end
section
namespace Ab
open PySem
theorem cut_at {α:Type} (xs:List α) {a b t:Nat} {x:α} (h:(cutL xs a b)[t]?=some x):a + t < b/\xs[a + t]?=some x:=by
 unfold cutL at h
 rw [List.getElem?_drop,List.getElem?_take] at h
 by_cases g:a + t < b
 ·exact ⟨g,(if_pos g).symm.trans h⟩
 ·exact nomatch (if_neg g).symm.trans h
theorem cutLen {α:Type} {xs:List α} {a b:Nat} (h:b<=xs.length):(cutL xs a b).length=b - a:=by rw [cutL,List.length_drop,List.length_take_of_le h]
theorem strR_len (c:Cell):∀ n,(strR c n).length<=n
 | 0=>Nat.le_refl _
 | n+1=>by
  have ih:=strR_len c n
  cases e:cat c n with
  | none=>exact strR_no e▸Nat.le_succ_of_le ih
  | some x =>
   rw [strR_yes e]
   refine Nat.le_trans ?_ (Nat.succ_le_succ ih)
   cases strR c n with
   | nil=>exact Nat.le_refl _
   | cons p r =>
    rcases Decidable.em (p.1 + p.2.length=n) with g|g
    ·rw [layT g];exact Nat.le_succ _
    ·rw [layN g];exact Nat.le_refl _
theorem lt_max' {a b i:Nat} (h:i < max a b) (k:a<=i):i < b:=(Nat.le_total a b).elim (fun g=>Nat.max_eq_right g▸h) fun g=>absurd (Nat.max_eq_left g▸h) (Nat.not_lt.mpr k)
def Newt (c:Cell) (o a e:Nat):Prop:=∃ i,o<=i/\(i < a/\i < e)/\cat c i=none
section
variable {c:Cell} {o q s a:Nat} {p:List UInt8}
structure Far (c:Cell) (o q a:Nat):Prop where
 lo:o<=a
 lq:q<=a
 ex:∀ i,q<=i->i < a->i < o
theorem Far.next {l:Nat} (F:Far c o q a) (h:q<=s):Far c o (s + l) (max a (s + l)):=⟨Nat.le_trans F.lo (Nat.le_max_left _ _),Nat.le_max_right _ _,fun i h1 h2=>(Nat.lt_or_ge i a).elim (fun g=>F.ex i (Nat.le_trans h (Nat.le_trans (Nat.le_add_right _ _) h1)) g) fun g=>absurd (lt_max' h2 g) (Nat.not_lt.mpr h1)⟩
theorem tk_a {m:Nat} (F:Far c o q a) (no:∀ i,q<=i->i < s->cat c i=none) (hs:m<=s) (hl:s<=c.length) (he:m<=o + p.length) (h:a < m):layR (strR (fill c o p) q) a (cutL p (a - o) (m - o))=strR (fill c o p) m:=by
 have lo:=F.lo
 have lq:=F.lq
 have ex:=F.ex
 obtain ⟨k,rfl⟩:=Nat.le.dest lo
 obtain ⟨l,rfl⟩:=Nat.le.dest (Nat.le_trans lo (Nat.le_of_lt h))
 rw [Nat.add_sub_cancel_left,Nat.add_sub_cancel_left]
 have kl:=Nat.lt_of_add_lt_add_left h
 have hc:(cutL p k l).length=l - k:=cutLen (Nat.le_of_add_le_add_left he)
 have e:=lay_step (c:=fill c o p) (p:=q) (a:=o + k) (b:=cutL p k l) (hc▸Nat.sub_pos_of_lt kl) lq (fun i g1 g2=>fill_none (no i g1 (Nat.lt_of_lt_of_le (Nat.lt_trans g2 h) hs)) (.inl (ex i g1 g2))) fun t x g=>by
  obtain ⟨g1,g2⟩:=cut_at p g
  have g3:=Nat.lt_of_lt_of_le (Nat.add_lt_add_left g1 o) hs
  rw [Nat.add_assoc,fill_new (Nat.lt_of_lt_of_le g3 hl) (no _ (Nat.le_trans lq (Nat.add_assoc o k t▸Nat.le_add_right _ _)) g3) (Nat.le_add_right _ _),Nat.add_sub_cancel_left,g2]
 rw [hc,Nat.add_assoc,Nat.add_sub_cancel' (Nat.le_of_lt kl)] at e
 exact e
theorem tk_b {b:List UInt8} (hb:0 < b.length) (hq:q<=s) (no:∀ i,q<=i->i < s->cat (fill c o p) i=none) (h:∀ t x,b[t]?=some x->cat c (s + t)=some x) :
  layR (strR (fill c o p) q) s b=strR (fill c o p) (s + b.length):=lay_step hb hq no fun t x g=>fill_some (h t x g)
theorem tk_no {e:Nat} (F:Far c o q a) (hn:¬ (a < e/\a < s)) {i:Nat} (h1:q<=i) (h2:i < s):i < o\/e<=i :=
 (Nat.lt_or_ge i a).elim (fun g=>.inl (F.ex i h1 g)) fun g=>.inr (Nat.not_lt.mp fun k=>hn ⟨Nat.lt_of_le_of_lt g k,Nat.lt_of_le_of_lt g h2⟩)
theorem new_on {e l:Nat} {b:Bool} (so:∀ t,t < l->(cat c (s + t)).isSome=true) (hn:¬ (a < e/\a < s)) (h:b=true↔Newt c o a e):b=true↔Newt c o (max a (s + l)) e:=by
 refine h.trans ⟨fun ⟨i,h1,h2,h3⟩=>⟨i,h1,⟨Nat.lt_of_lt_of_le h2.1 (Nat.le_max_left _ _),h2.2⟩,h3⟩,fun ⟨i,h1,h2,h3⟩=>⟨i,h1,⟨Nat.not_le.mp fun g=>?_,h2.2⟩,h3⟩⟩
 have sa:=Nat.not_lt.mp fun k=>hn ⟨Nat.lt_of_le_of_lt g h2.2,k⟩
 have si:=Nat.le_trans sa g
 have:=so (i - s) (Nat.sub_lt_left_of_lt_add si (lt_max' h2.1 g))
 rw [Nat.add_sub_cancel' si,h3] at this
 cases this
theorem new_in {e a':Nat} (F:Far c o q a) (no:∀ i,q<=i->i < s->cat c i=none) (h1:a < e) (h2:a < s) (h3:a < a'):true=true↔Newt c o a' e:=⟨fun _=>⟨a,F.lo,⟨h3,h1⟩,no _ F.lq h2⟩,fun _=>rfl⟩
end
def up {α:Type} (f:Nat->α) (r:Nat) (v:α):Nat->α:=fun x=>if x=r then v else f x
theorem up_at {α:Type} {f:Nat->α} {r:Nat} {v:α}:up f r v r=v:=if_pos rfl
theorem up_ne {α:Type} {f:Nat->α} {r x:Nat} {v:α} (h:x≠r):up f r v x=f x:=if_neg h
theorem up_id {α:Type} {f:Nat->α} {r:Nat}:up f r (f r)=f:=funext fun x=>by
 rcases Decidable.em (x=r) with h|h
 ·rw [h,up_at]
 ·exact up_ne h
theorem rng_set {α β:Type} {f:Nat->α} {g:α->β} {n r:Nat} {v:α}:((List.range n).map fun x=>g (f x)).set r (g v)=(List.range n).map fun x=>g (up f r v x):=by
 refine List.ext_getElem? fun i=>?_
 rw [List.getElem?_set]
 rcases Nat.lt_or_ge i n with h|h
 ·rcases Decidable.em (r=i) with rfl|k
  ·rw [if_pos rfl,List.length_map,List.length_range,if_pos h,rng_at h,up_at]
  ·rw [if_neg k,rng_at h,rng_at h,up_ne (Ne.symm k)]
 ·have e:∀ {γ:Type} (t:Nat->γ),((List.range n).map t)[i]?=none:=fun t=>List.getElem?_eq_none (by rw [List.length_map,List.length_range];exact h)
  rw [e,e]
  rcases Decidable.em (r=i) with rfl|k
  ·rw [if_pos rfl,List.length_map,List.length_range,if_neg (Nat.not_lt.mpr h)]
  ·rw [if_neg k]
theorem imin (a b:Nat):min (a:Int) b=((min a b:Nat):Int):=(Nat.le_total a b).elim (fun h=>by rw [Nat.min_eq_left h,Int.min_eq_left (Int.ofNat_le.mpr h)]) fun h=>by rw [Nat.min_eq_right h,Int.min_eq_right (Int.ofNat_le.mpr h)]
theorem imax (a b:Nat):max (a:Int) b=((max a b:Nat):Int):=(Nat.le_total a b).elim (fun h=>by rw [Nat.max_eq_right h,Int.max_eq_right (Int.ofNat_le.mpr h)]) fun h=>by rw [Nat.max_eq_left h,Int.max_eq_left (Int.ofNat_le.mpr h)]
end Ab
end
section
namespace Ab
open PySem
theorem andF {A B p q p':Prop} [Decidable A] [Decidable B] (h:¬ (A/\B)) (hq:q):ifb (decide A) (ifb (decide B) p q) (ifb (decide A) p' q) :=
 (Decidable.em A).elim (fun a=>ifT a (ifF (fun b=>h ⟨a,b⟩) hq)) fun a=>ifF a (ifF a hq)
structure Took (s:SC) (z:Sst) (r:Nat) (c':Cell) (H H':AH) (h':Nat):Prop where
 u:Upd [s.hl] H H'
 hh:H'[s.hl]?=some (refs s.k.n (up z.h r h'))
 ho:H'[h']?=some (pcs c')
 nh:h'=z.h r\/H.length<=h'
structure TkA where
 a:Nat
 new:Bool
 t9:Option AV
 t10:Option AV
 t11:Option AV
 H:AH
structure TkI (c:Cell) (o:Nat) (p:List UInt8) (H:AH) (q:Nat) (a:TkA):Prop where
 u:Upd [] H a.H
 k:a.H[H.length]?=some (pcR (strR (fill c o p) q))
 f:Far c o q a.a
 n:a.new=true↔Newt c o a.a (o + p.length)
theorem le_min' {a b i:Nat} (h:min a b<=i) (k:i < a):b<=i:=(Nat.le_total a b).elim (fun g=>absurd (Nat.min_eq_left g▸h) (Nat.not_le.mpr k)) fun g=>Nat.min_eq_right g▸h
theorem TkI.cast {c:Cell} {o:Nat} {p:List UInt8} {H:AH} {q q':Nat} {a:TkA} (e:q=q') (J:TkI c o p H q a):TkI c o p H q' a:=e▸J
theorem pc_room {c:Cell} {q m:Nat} (hq:q<=m) (hm:m<=200):(strR c q).length < LIM/\lastE (strR c q)<=200:=⟨Nat.lt_of_le_of_lt (Nat.le_trans (strR_len c q) (Nat.le_trans hq hm)) (by decide),Nat.le_trans (dec_str q).le (Nat.le_trans hq hm)⟩
section
variable {d:Nat} {H:AH} {Q:AV->AH->Prop} {E:Nat->AH->Prop}
theorem take_old {K a x:Nat} {b:List UInt8} {R:List Piece} {t0 t1 t2 t3 t4 t5 t8 t11:Option AV} {Q:Fl->St->Prop} {E:KX} (hk:H[K]?=some (pcR R)) (hl:R.length < LIM) (hp:lastE R + b.length<=LIM)
  (hQ:Q .next ⟨[t0,t1,t2,t3,t4,t5,some (.ref K),some (.int ((max a (x + b.length):Nat):Int)),t8,some (.int (x:Int)),some (.bytes b),t11],H.set K (pcR (layR R x b))⟩) :
  vSs T (callN T (d+1)) b_Inbox_take_3_1 ⟨[t0,t1,t2,t3,t4,t5,some (.ref K),some (.int (a:Int)),t8,some (.int (x:Int)),some (.bytes b),t11],H⟩ Q E:=by
 rw [<-imax] at hQ
 exact ⟨rfl,lay_spec hk hl hp hQ⟩
theorem new_in2 {c:Cell} {o q s a e:Nat} (F:Far c o q a) (no:∀ i,q<=i->i < s->cat c i=none) (h1:a < e) (h2:a < s):true=true↔New c o e:=⟨fun _=>⟨a,F.lo,h1,no _ F.lq h2⟩,fun _=>rfl⟩
theorem take_end {s:SC} {z:Sst} {r o:Nat} {p:List UInt8} {c:Cell} {nb:Bool} {H1:AH} {t2 t3 t4 t5 t7 t9 t10 t11:Option AV} {E:KX} (B:Box s z H) (hr:r < s.k.n) (hc:z.c r=c) (u:Upd [] H H1) (hk:H1[H.length]?=some (pcR (strR (fill c o p) (fill c o p).length)))
  (hn:nb=true↔New c o (o + p.length)) (hQ:∀ H' h' b,Took s z r (fill c o p) H H' h'->(b=true↔New c o (o + p.length))->Q (.bool b) H') :
  vSs T (callN T (d+1)) b_Inbox_take_0_9 ⟨[some (.ref s.b),some (.int (r:Int)),t2,t3,t4,t5,some (.ref H.length),t7,some (.bool nb),t9,t10,t11],H1⟩ (retK Q) E:=by
 cases nb with
 | false =>
  refine hQ H1 (z.h r) false ⟨u.nil,by rw [up_id];exact u.get0 B.hh,?_,.inl rfl⟩ hn
  rw [fill_same fun h=>(nomatch hn.mpr h),<-hc]
  exact u.get0 (B.ho r hr)
 | true =>
  refine att (u.get0 B.hb) rfl rfl (Lst.mk _ (u.get0 B.hh) ⟨len_refs.symm▸hr,hQ _ H.length true ⟨u.nil.trans (.set (.head _)),?_,?_,.inr (Nat.le_refl _)⟩ hn⟩)
  ·rw [rng_set (g:=AV.ref)]
   exact getSet (u.get0 B.hh)
  ·rw [List.getElem?_set_ne (Nat.ne_of_lt (List.getElem?_eq_some_iff.mp B.hh).1),pcs_eq]
   exact hk
theorem take_loop {s:SC} {z:Sst} {r o:Nat} {pc p:List UInt8} {E:KX} (B:Box s z H) (hr:r < s.k.n) (ho:o + p.length<=(z.c r).length)
  (hQ:∀ H' h' b,Took s z r (fill (z.c r) o p) H H' h'->(b=true↔New (z.c r) o (o + p.length))->Q (.bool b) H') :
  vSs T (callN T (d+1)) b_Inbox_take_0_3 ⟨[some (.ref s.b),some (.int (r:Int)),some (.int (o:Int)),some (.bytes pc),some (.bytes p),none,none,none,none,none,none,none],H⟩ (retK Q) E:=by
 have hc:=B.ho r hr
 have hl:=B.le hr
 generalize hcc:z.c r=c at *
 have z0:Upd [] H (H++[AObj.list []]):=.app
 refine att (z0.get0 B.hb) rfl rfl (Lst.mk _ (z0.get0 B.hh) (At.mk _ (rng_at hr) (Lst.mk _ (z0.get0 hc) ?_)))
 refine forL (fun j (a:TkA)=>⟨[some (.ref s.b),some (.int (r:Int)),some (.int (o:Int)),some (.bytes pc),some (.bytes p),some (.int ((o + p.length:Nat):Int)),some (.ref H.length),some (.int (a.a:Int)),some (.bool a.new),a.t9,a.t10,a.t11],a.H⟩)
  (fun j=>TkI c o p H (lastE ((str c).take j).reverse)) ⟨o,false,none,none,none,H++[.list []]⟩ ⟨z0,getLast',⟨Nat.le_refl _,Nat.zero_le _,fun _ _ h=>h⟩,⟨(fun h=>nomatch h),fun ⟨i,h1,h2,_⟩=>absurd h2.1 (Nat.not_lt.mpr h1)⟩⟩ (fun _ a J=>J.u.get0 hc) (fun j x a hp J=>⟨rfl,?_⟩) (fun a J=>?_)
 ·obtain ⟨m,hm,D⟩:=dec_at (c:=c) (j+1)
  have eq:lastE ((str c).take (j+1)).reverse=x.1 + x.2.length:=by rw [take_rev hp];rfl
  rw [take_rev hp] at D
  have hq:=D.2.2.le
  have no:=D.2.2.no
  have xs:=Nat.le_trans D.1.1.2 hm
  have x1:=Nat.le_trans (Nat.le_add_right _ _) xs
  have bl:x.2.length<=200:=Nat.le_trans (Nat.le_add_left _ _) (Nat.le_trans xs hl)
  generalize lastE ((str c).take j).reverse=q at *
  have w:=fun {q:Nat} (h:q<=x.1)=>pc_room (c:=fill c o p) h (Nat.le_trans x1 hl)
  have so:∀ t,t < x.2.length->(cat c (x.1 + t)).isSome=true:=fun t ht=>(D.2.1 t _ (List.getElem?_eq_getElem ht))▸rfl
  have old:∀ {q1:Nat} {nb:Bool} {t:Option AV} {H1:AH},q1<=x.1->Upd [] H H1->H1[H.length]?=some (pcR (strR (fill c o p) q1))->(∀ i,q1<=i->i < x.1->cat (fill c o p) i=none)->(nb=true↔Newt c o (max a.a (x.1 + x.2.length)) (o + p.length))->TkI c o p H (lastE ((str c).take (j+1)).reverse) ⟨max a.a (x.1 + x.2.length),nb,some (.int (x.1:Int)),some (.bytes x.2),t,H1.set H.length (pcR (layR (strR (fill c o p) q1) x.1 x.2))⟩:=fun h1 u k h2 h3 =>
   TkI.cast eq.symm ⟨u.fresh (.set (.head _)) (Nat.le_refl _),tk_b (p:=p) D.1.1.1 h1 h2 D.2.1▸getSet k,J.f.next hq,h3⟩
  rcases Decidable.em (a.a < o + p.length/\a.a < x.1) with g|g
  ·have le:=Nat.min_le_left x.1 (o + p.length)
   have re:=Nat.min_le_right x.1 (o + p.length)
   have lt:=Nat.lt_min.mpr ⟨g.2,g.1⟩
   refine ifT (Int.ofNat_lt.mpr g.1) (ifT (Int.ofNat_lt.mpr g.2) ?_)
   have mm:min (x.1:Int) ((o + p.length:Nat):Int) - (o:Int)=((min x.1 (o + p.length) - o:Nat):Int):=by rw [imin];exact (Int.ofNat_sub (Nat.le_trans J.f.lo (Nat.le_of_lt lt))).symm
   have ma:(a.a:Int) - (o:Int)=((a.a - o:Nat):Int):=(Int.ofNat_sub J.f.lo).symm
   have bb:∀ {k},k<=c.length->k - o < 1152921504606846976:=fun h=>Nat.lt_of_le_of_lt (Nat.sub_le _ _) (Nat.lt_of_le_of_lt (Nat.le_trans h hl) (by decide))
   refine ⟨rfl,Nt.mk (a:=.int (_ - _)) _ (congrArg AV.int ma) ⟨bb (Nat.le_trans (Nat.le_of_lt g.2) x1),Nt.mk (a:=.int (_ - _)) _ (congrArg AV.int mm) ⟨bb (Nat.le_trans le x1),lay_spec J.k (w hq).1 ?_ ?_⟩⟩⟩
   ·have cl:(cutL p (a.a - o) (min x.1 (o + p.length) - o)).length<=200:=Nat.le_trans (Nat.le_of_eq (cutLen (Nat.sub_le_iff_le_add'.mpr re))) (Nat.le_trans (Nat.sub_le _ _) (Nat.le_trans (Nat.sub_le _ _) (Nat.le_trans le (Nat.le_trans x1 hl))))
    exact Nat.le_trans (Nat.add_le_add (w hq).2 cl) (by decide)
   ·rw [tk_a J.f no le x1 re lt]
    refine take_old (getSet J.k) (w le).1 (Nat.le_trans (Nat.add_le_add (w le).2 bl) (by decide)) ?_
    exact Fxt.mk ⟨_,_,_,_,_,_⟩ rfl (old le (J.u.fresh (.set (.head _)) (Nat.le_refl _)) (getSet J.k) (fun i h1 h2=>fill_none (no i (Nat.le_trans J.f.lq (Nat.le_trans (Nat.le_of_lt lt) h1)) h2) (.inr (le_min' h1 h2))) (new_in J.f no g.1 g.2 (Nat.lt_of_lt_of_le g.2 (Nat.le_trans (Nat.le_add_right _ _) (Nat.le_max_right _ _)))))
  ·refine andF (fun h=>g ⟨Int.ofNat_lt.mp h.1,Int.ofNat_lt.mp h.2⟩) (take_old J.k (w hq).1 (Nat.le_trans (Nat.add_le_add (w hq).2 bl) (by decide)) ?_)
   exact Fxt.mk ⟨_,_,_,_,_,_⟩ rfl (old hq J.u J.k (fun i h1 h2=>fill_none (no i h1 h2) (tk_no J.f g h1 h2)) (new_on so g J.n))
 ·have eq:((str c).take (str c).length).reverse=strR c c.length:=by rw [List.take_length,str,List.reverse_reverse]
  rw [eq] at J
  have D:=dec_str (c:=c) c.length
  have no:=D.no
  have hq:=D.le
  generalize lastE (strR c c.length)=q at *
  have w:=pc_room (c:=fill c o p) hq hl
  have e0:strR (fill c o p) (fill c o p).length=strR (fill c o p) c.length:=by rw [fillLen]
  rcases Nat.lt_or_ge a.a (o + p.length) with g|g
  ·have ma:(a.a:Int) - (o:Int)=((a.a - o:Nat):Int):=(Int.ofNat_sub J.f.lo).symm
   have tk:=tk_a (m:=o + p.length) J.f no ho (Nat.le_refl _) (Nat.le_refl _) g
   rw [Nat.add_sub_cancel_left] at tk
   have pl:=Nat.le_trans (Nat.le_trans (Nat.le_add_left _ _) ho) hl
   refine ifT (Int.ofNat_lt.mpr g) ⟨rfl,Nt.mk (a:=.int (_ - _)) _ (congrArg AV.int ma) ⟨Nat.lt_of_le_of_lt (Nat.le_trans (Nat.sub_le _ _) (Nat.le_trans (Nat.le_of_lt g) (Nat.le_trans ho hl))) (by decide),lay_spec J.k w.1 (Nat.le_trans (Nat.add_le_add w.2 (Nat.le_trans (Nat.le_of_eq (cutLen (Nat.le_refl _))) (Nat.le_trans (Nat.sub_le _ _) pl))) (by decide)) ?_⟩⟩
   rw [tk]
   exact take_end B hr hcc (J.u.fresh (.set (.head _)) (Nat.le_refl _)) (by rw [e0,strR_none ho fun i h1 h2=>fill_none (no i (Nat.le_trans J.f.lq (Nat.le_trans (Nat.le_of_lt g) h1)) h2) (.inr h1)];exact getSet J.k) (new_in2 J.f no g (Nat.lt_of_lt_of_le g ho)) hQ
  ·refine ifF (Int.not_lt.mpr (Int.ofNat_le.mpr g)) (take_end B hr hcc J.u ?_ (J.n.trans ⟨fun ⟨i,h1,h2,h3⟩=>⟨i,h1,h2.2,h3⟩,fun ⟨i,h1,h2,h3⟩=>⟨i,h1,⟨Nat.lt_of_lt_of_le h2 g,h2⟩,h3⟩⟩) hQ)
   rw [e0,strR_none hq fun i h1 h2=>fill_none (no i h1 h2) (tk_no J.f (fun k=>Nat.not_lt.mpr g k.1) h1 h2)]
   exact J.k
theorem take_yes {s:SC} {z:Sst} {r o:Nat} {pc:List UInt8} (B:Box s z H) (hr:r < s.k.n) (ho:o + pc.length<=(z.c r).length)
  (hQ:∀ H' h' b,Took s z r (fill (z.c r) o (pc.take s.lim)) H H' h'->(b=true↔New (z.c r) o (o + (pc.take s.lim).length))->Q (.bool b) H') :
  callN T (d + 2) i_Inbox i_take [.ref s.b,.int (r:Int),.int (o:Int),.bytes pc] H Q E:=by
 refine enter fd_Inbox_take rfl rfl (att B.hb rfl rfl (Lst.mk _ B.hh (ifF (by rw [len_refs];exact Int.not_le.mpr (Int.ofNat_lt.mpr hr)) ?_)))
 refine att B.hb rfl rfl (att B.man.hm rfl rfl (Lst.mk _ B.man.refs (At.mk _ (rng_at hr) (att (B.man.obj hr) rfl rfl (ifF (by rw [B.sz r hr];exact Int.not_lt.mpr (Int.ofNat_le.mpr ho)) ?_)))))
 refine att B.hb rfl rfl ⟨Nat.lt_of_le_of_lt B.l1 (by decide),?_⟩
 exact take_loop (pc:=pc) (p:=pc.take s.lim) B hr (Nat.le_trans (Nat.add_le_add_left (List.length_take_le' _ _) o) ho) hQ
end
end Ab
end
section
namespace Ab
open PySem
def octs (c:Cell):List UInt8:=c.filterMap id
theorem full_map:∀ {c:Cell},¬ holeF c < c.length->(octs c).map some=c
 | [],_=>rfl
 | none::c,h=>absurd (Nat.succ_pos _) h
 | some x::c,h=>congrArg (some x::·) (full_map fun g=>h (Nat.succ_lt_succ g))
theorem octs_map:∀ b:List UInt8,octs (b.map some)=b
 | []=>rfl
 | x::b=>congrArg (x::·) (octs_map b)
theorem cat_map {b:List UInt8} {t:Nat}:cat (b.map some) t=b[t]?:=by
 rw [cat,List.getElem?_map]
 cases b[t]? <;> rfl
theorem str_full:∀ b:List UInt8,((str (b.map some)).map (·.2)).flatten=b
 | []=>rfl
 | x::b=>by
  have e:=strR_bytes (c:=(x::b).map some) (a:=0) (b:=x::b) (fun t y h=>by rw [Nat.zero_add,cat_map];exact h) b.length (Nat.lt_succ_self _)
  rw [Nat.zero_add,show b.length+1=(x::b).length from rfl,List.take_length] at e
  rw [str,List.length_map,e]
  exact List.append_nil _
theorem str_none (k:Nat):str (List.replicate k none)=[]:=by
 rw [str,strR_none (Nat.zero_le _) fun i _ h=>cat_of (by rw [List.getElem?_replicate];exact if_pos (by rw [List.length_replicate] at h;exact h))]
 rfl
noncomputable def gd (s:SC) (z:Sst) (r:Nat):Bool:=decide ((octs (z.c r)).length=(s.k.p r).2.size/\chk (octs (z.c r))=(s.k.p r).2.check)
noncomputable def leftC (s:SC) (z:Sst) (r:Nat):Cell:=bif gd s z r then z.c r else List.replicate (z.c r).length none
noncomputable def bads (s:SC) (z:Sst) (j:Nat):List Nat:=(List.range j).filter fun r=>!gd s z r
section
variable {s:SC} {z:Sst} {j:Nat}
theorem bads_t (h:gd s z j=true):bads s z (j+1)=bads s z j:=by rw [bads,List.range_succ,List.filter_append,List.filter_cons_of_neg (by rw [h];exact Bool.noConfusion)];exact List.append_nil _
theorem bads_f (h:gd s z j=false):bads s z (j+1)=bads s z j++[j]:=by rw [bads,List.range_succ,List.filter_append,List.filter_cons_of_pos (by rw [h];rfl)];rfl
theorem bads_len:(bads s z j).length<=j:=Nat.le_trans (List.length_filter_le _ _) (Nat.le_of_eq List.length_range)
theorem bads_lt {r:Nat} (h:r∈bads s z j):r < j:=List.mem_range.mp (List.mem_filter.mp h).1
end
structure Moved (s:SC) (z z':Sst) (H H':AH):Prop where
 u:Upd [s.hl] H H'
 hh:H'[s.hl]?=some (refs s.k.n z'.h)
 ho:∀ r,r < s.k.n->H'[z'.h r]?=some (pcs (z'.c r))
 nh:∀ r,r < s.k.n->z'.h r=z.h r\/H.length<=z'.h r
structure RuA where
 h:Nat->Nat
 t4:Option AV
 t5:Option AV
 H:AH
structure RuI (s:SC) (z:Sst) (S:List Nat) (H:AH) (j:Nat) (a:RuA):Prop where
 u:Upd S H a.H
 fo:a.H[H.length]?=some (.list ((List.range j).map fun r=>.bytes (octs (z.c r))))
 br:a.H[H.length+1]?=some (.list ((bads s z j).map fun r:Nat=>.int (r:Int)))
 hh:a.H[s.hl]?=some (refs s.k.n a.h)
 ho:∀ r,r < j->a.H[a.h r]?=some (pcs (leftC s z r))
 h0:∀ r,j<=r->r < s.k.n->a.h r=z.h r
 nh:∀ r,r < s.k.n->a.h r=z.h r\/H.length + 2<=a.h r
theorem range_push {α:Type} {f:Nat->α} {j:Nat}:(List.range j).map f++[f j]=(List.range (j+1)).map f:=by rw [List.range_succ,List.map_append];rfl
section
variable {d:Nat} {H:AH} {Q:AV->AH->Prop} {E:Nat->AH->Prop}
theorem fmtN {n:Nat} {H:AH} (h:n<=10000000):fmtP (.int (n:Int)) H:=⟨Int.lt_of_lt_of_le (by decide) (Int.natCast_nonneg n),Int.lt_of_le_of_lt (Int.ofNat_le.mpr h) (by decide)⟩
theorem miss_lt {c:Nat->Cell} {m:Nat} (hc:∀ r,r < m->(c r).length<=200):∀ (n r:Nat) {p:Nat×Nat},n + r<=m->missF c n r=some p->p.1 < m/\p.2<=200
 | 0,_,_,_,h=>nomatch h
 | n+1,r,p,hr,h=>by
  have lr:r < m:=Nat.lt_of_lt_of_le (Nat.lt_add_of_pos_left (Nat.succ_pos n)) hr
  rcases Decidable.em (holeF (c r) < (c r).length) with g|g
  ·cases (if_pos g).symm.trans h
   exact ⟨lr,Nat.le_trans (Nat.le_of_lt g) (hc r lr)⟩
  ·exact miss_lt hc n (r+1) (by rw [Nat.add_comm r,<-Nat.add_assoc];exact hr) ((if_neg g).symm.trans h)
theorem runs_short {s:SC} {z:Sst} (B:Box s z H) (h:(missF z.c s.k.n 0).isSome=true) (hQ:E i_ShortOctets H):callN T (d + 3) i_Inbox i_runs [.ref s.b] H Q E:=by
 refine enter fd_Inbox_runs rfl rfl (mth B.hb rfl (missing_spec B ?_))
 cases e:missF z.c s.k.n 0 with
 | none=>rw [e] at h;cases h
 | some p =>
  have g:=miss_lt (fun r hr=>B.le hr) _ _ (Nat.le_refl _) e
  exact ⟨rfl,rfl,At.mk _ rfl ⟨fmtN (Nat.le_trans (Nat.le_of_lt g.1) (Nat.le_trans B.man.le (by decide))),At.mk _ rfl ⟨fmtN (Nat.le_trans g.2 (by decide)),hQ⟩⟩⟩
section
variable {s:SC} {z:Sst} {S:List Nat} {j:Nat} {a:RuA}
theorem RuI.upd (J:RuI s z S H j a) {H':AH} {t4 t5:Option AV} (u:Upd [] a.H H'):RuI s z S H j ⟨a.h,t4,t5,H'⟩ :=
 ⟨J.u.trans u.nil,u.get0 J.fo,u.get0 J.br,u.get0 J.hh,fun r hr=>u.get0 (J.ho r hr),J.h0,J.nh⟩
theorem RuI.off (B:Box s z H) (J:RuI s z S H j a) {r:Nat} (hr:r < s.k.n):a.h r≠H.length/\a.h r≠H.length+1/\a.h r≠s.hl:=by
 have l:=(List.getElem?_eq_some_iff.mp (B.ho r hr)).1
 rcases J.nh r hr with h|h
 ·rw [h]
  exact ⟨Nat.ne_of_lt l,Nat.ne_of_lt (Nat.lt_succ_of_lt l),B.ne r hr⟩
 ·have g:=(List.getElem?_eq_some_iff.mp B.hh).1
  exact ⟨Nat.ne_of_gt (Nat.lt_of_lt_of_le (Nat.lt_succ_of_lt (Nat.lt_succ_self _)) h),Nat.ne_of_gt h,Nat.ne_of_gt (Nat.lt_of_lt_of_le (Nat.lt_succ_of_lt (Nat.lt_succ_of_lt g)) h)⟩
theorem left_t (h:gd s z j=true):leftC s z j=z.c j:=by rw [leftC,h];rfl
theorem left_f (h:gd s z j=false):leftC s z j=List.replicate (z.c j).length none:=by rw [leftC,h];rfl
theorem idx {G:AH} {x y:Nat} {o:AObj} (e:x=y) (h:G[y]?=some o):G[x]?=some o:=e▸h
theorem RuI.good (B:Box s z H) (J:RuI s z S H j a) (hj:j < s.k.n) (h:gd s z j=true) (o:a.H[z.h j]?=some (pcs (z.c j))) {t4 t5:Option AV} {b:List UInt8} (e:b=octs (z.c j)) :
  RuI s z S H (j+1) ⟨a.h,t4,t5,a.H.set H.length (.list (((List.range j).map fun r=>.bytes (octs (z.c r)))++[.bytes b]))⟩:=by
 have lh:=(List.getElem?_eq_some_iff.mp B.hh).1
 have ne:=fun {l:Nat} {o o':AObj} (k:l≠H.length) (e:a.H[l]?=some o)=>(List.getElem?_set_ne (a:=o') (Ne.symm k)).trans e
 refine ⟨J.u.fresh (.set (.head _)) (Nat.le_refl _) |>.mono fun _ h=>h,?_,?_,ne (Nat.ne_of_lt lh) J.hh,fun r hr=>?_,fun r h1 h2=>J.h0 r (Nat.le_of_succ_le h1) h2,J.nh⟩
 ·rw [e,range_push (f:=fun r=>AV.bytes (octs (z.c r)))]
  exact getSet J.fo
 ·rw [bads_t h]
  exact ne (Nat.ne_of_gt (Nat.lt_succ_self _)) J.br
 ·have rn:=Nat.lt_of_lt_of_le hr hj
  refine ne (J.off B rn).1 ?_
  exact upto (P:=fun r=>a.H[a.h r]?=some (pcs (leftC s z r))) (by rw [J.h0 j (Nat.le_refl _) hj,left_t h];exact o) hr (J.ho r)
theorem RuI.bad (B:Box s z H) (J:RuI s z S H j a) (hj:j < s.k.n) (h:gd s z j=false) (hS:s.hl∈S) {t4 t5:Option AV} {b:List UInt8} (e:b=octs (z.c j)) :
  RuI s z S H (j+1) ⟨up a.h j a.H.length,t4,t5,(((a.H++[AObj.list []]).set s.hl (refs s.k.n (up a.h j a.H.length))).set (H.length+1) (AObj.list (((bads s z j).map fun r:Nat=>AV.int (r:Int))++[AV.int (j:Int)]))).set H.length (AObj.list (((List.range j).map fun r=>AV.bytes (octs (z.c r)))++[AV.bytes b]))⟩:=by
 have lh:=(List.getElem?_eq_some_iff.mp B.hh).1
 have lk:=(List.getElem?_eq_some_iff.mp J.br).1
 have ap:=fun {l:Nat} {o:AObj} (e:a.H[l]?=some o)=>Upd.get0 (H':=a.H++[AObj.list []]) .app e
 have ne:=fun {l x:Nat} {o o':AObj} {G:AH} (k:l≠x) (e:G[l]?=some o)=>(List.getElem?_set_ne (a:=o') (Ne.symm k)).trans e
 have n1:H.length+1≠H.length:=Nat.ne_of_gt (Nat.lt_succ_self _)
 have n2:=Nat.ne_of_lt lh
 have n3:=Nat.ne_of_lt (Nat.lt_succ_of_lt lh)
 have n4:a.H.length≠H.length:=Nat.ne_of_gt (Nat.lt_of_succ_lt lk)
 have n5:a.H.length≠H.length+1:=Nat.ne_of_gt lk
 have n6:a.H.length≠s.hl:=Nat.ne_of_gt (Nat.lt_trans (Nat.lt_succ_of_lt lh) lk)
 have l3:(a.H++[AObj.list []])[a.H.length]?=some (pcs (leftC s z j)):=by rw [left_f h,pcs,str_none];exact gLast _ _
 refine ⟨?_,?_,?_,ne n2 (ne n3 (getSet (ap J.hh))),fun r hr=>?_,fun r h1 h2=>?_,fun r hr=>?_⟩
 ·exact ((J.u.trans .app).trans (.set hS)).fresh (.set (.head _)) (Nat.le_succ _) |>.fresh (.set (.head _)) (Nat.le_refl _)
 ·rw [e,range_push (f:=fun r=>AV.bytes (octs (z.c r)))]
  exact getSet (ne n1.symm (ne n2.symm (ap J.fo)))
 ·rw [bads_f h,List.map_append]
  exact ne n1 (getSet (ne n3.symm (ap J.br)))
 ·rcases Decidable.em (r=j) with rfl|k
  ·exact idx up_at (ne n4 (ne n5 (ne n6 l3)))
  ·have rj:=Nat.lt_of_le_of_ne (Nat.le_of_lt_succ hr) k
   obtain ⟨k1,k2,k3⟩:=J.off B (Nat.lt_trans rj hj)
   exact idx (up_ne k) (ne k1 (ne k2 (ne k3 (ap (J.ho r rj)))))
 ·exact (up_ne (Nat.ne_of_gt h1)).trans (J.h0 r (Nat.le_of_succ_le h1) h2)
 ·rcases Decidable.em (r=j) with rfl|k
  ·exact .inr (Nat.le_trans lk (Nat.le_of_eq up_at.symm))
  ·exact (J.nh r hr).imp (up_ne k).trans fun l=>Nat.le_trans l (Nat.le_of_eq (up_ne k).symm)
end
end
end Ab
end
section
namespace Ab
open PySem
theorem lenS {H:AH} {o:AObj}:(H++[o]).length=H.length+1:=List.length_append
theorem niT' {P p q:Prop} [Decidable P] (h:decide P=true) (hp:q):ifb (!decide P) p q:=h▸hp
theorem niF' {P p q:Prop} [Decidable P] (h:decide P=false) (hp:p):ifb (!decide P) p q:=h▸hp
section
variable {d:Nat} {H:AH} {Q:AV->AH->Prop} {E:KX}
theorem runs_loop {s:SC} {z:Sst} {S:List Nat} {K:Nat} {H1:AH} (B:Box s z H) (hf:missF z.c s.k.n 0=none) (hfull:∀ r,r < s.k.n->¬ holeF (z.c r) < (z.c r).length) (hS:∀ x∈S,x=s.hl) (hb:∀ r,r < s.k.n->gd s z r=false->s.hl∈S)
  (hK:K=H.length+1) (I0:RuI s z S H 0 ⟨z.h,none,none,H1⟩) (hQ:∀ a,RuI s z S H s.k.n a->vSs T (callN T (d + 2)) b_Inbox_runs_0_5 ⟨[some (.ref s.b),some .none,some (.ref H.length),some (.ref K),a.t4,a.t5],a.H⟩ (retK Q) E) :
  vSs T (callN T (d + 2)) b_Inbox_runs_0_4 ⟨[some (.ref s.b),some .none,some (.ref H.length),some (.ref K),none,none],H1⟩ (retK Q) E:=by
 subst hK
 have nS:∀ {y:Nat},y≠s.hl->y∉S:=fun h q=>h (hS _ q)
 have bn:∀ {G:AH},Upd S H G->G[s.b]?=some (box s.k.m s.lim s.hl):=fun u=>u.get B.hb (nS fun q=>nomatch (q▸B.hb).symm.trans B.hh)
 have man:∀ {G:AH},Upd S H G->Man s.k G:=fun u=>B.man.upd u fun x hx=>hS x hx▸B.hN
 refine att (bn I0.u) rfl rfl (Lst.mk _ I0.hh ?_)
 rw [len_refs]
 refine ⟨B.nl,forN (fun j (a:RuA)=>⟨[some (.ref s.b),some .none,some (.ref H.length),some (.ref (H.length+1)),a.t4,a.t5],a.H⟩) (RuI s z S H) _ I0 (fun j a hj J=>?_) hQ⟩
 have oj:a.H[a.h j]?=some (pcs (z.c j)):=(J.h0 j (Nat.le_refl _) hj)▸J.u.get (B.ho j hj) (nS (B.ne j hj))
 have sl:(str (z.c j)).length<=200:=Nat.le_trans (Nat.le_of_eq List.length_reverse) (Nat.le_trans (strR_len _ _) (B.le hj))
 refine ⟨rfl,att (bn J.u) rfl rfl (Lst.mk _ J.hh (At.mk _ (rng_at hj) (Lst.mk _ oj ?_)))⟩
 refine forL (fun n (y:Option AV×Option AV×AH)=>⟨[y.1,y.2.1],y.2.2⟩) (fun n y=>RowsI a.H (((str (z.c j)).take n).map fun p=>AV.bytes p.2) (none,y.2.2)) (none,none,a.H++[.list []]) ⟨.app,getLast'⟩ (fun n y I=>I.u.get0 oj)
  (fun n x y e I=>?_) (fun y I=>?_)
 ·exact ⟨rfl,Lst.mk _ I.o ⟨len_take sl (by decide),Fxt.mk (_,_,_) rfl (I.push .refl (map_take_succ e))⟩⟩
 have e1:=str_full (octs (z.c j))
 rw [full_map (hfull j hj)] at e1
 have ol:(octs (z.c j)).length<=200:=Nat.le_trans (List.length_filterMap_le _ _) (B.le hj)
 refine ⟨rfl,Lst.mk _ I.o ⟨(str (z.c j)).map (·.2),by rw [List.take_length,List.map_map];rfl,by rw [e1];exact Nat.le_trans ol (by decide),?_⟩⟩
 have J2:=J.upd (t4:=some (.int (j:Int))) (t5:=some (.bytes ((str (z.c j)).map (·.2)).flatten)) I.u
 have oj2:=J2.h0 j (Nat.le_refl _) hj▸I.u.get0 oj
 have M:=man J2.u
 generalize ((str (z.c j)).map (·.2)).flatten=b at *
 have lf:((List.range j).map fun r=>AV.bytes (octs (z.c r))).length < LIM:=Nat.lt_of_le_of_lt (Nat.le_trans (Nat.le_of_eq len_refs) (Nat.le_trans (Nat.le_of_lt hj) B.man.le)) (by decide)
 have lb:((bads s z j).map fun r:Nat=>AV.int (r:Int)).length < LIM:=Nat.lt_of_le_of_lt (Nat.le_trans (Nat.le_of_eq (List.length_map _)) (Nat.le_trans bads_len (Nat.le_trans (Nat.le_of_lt hj) B.man.le))) (by decide)
 refine att (bn J2.u) rfl rfl (att M.hm rfl rfl (Lst.mk _ M.refs (At.mk _ (rng_at hj) (mth (M.obj hj) rfl (ri_fits (M.obj hj) (e1▸ol) ?_)))))
 cases g:gd s z j with
 | true =>
  refine niT' (by rw [e1];exact g) ?_
  exact ⟨Lst.mk _ J2.fo trivial,Lst.mk _ J2.fo ⟨lf,Fxt.mk ⟨_,_,_,_⟩ rfl (J2.good B hj g oj2 e1)⟩⟩
 | false =>
  have lh:=(List.getElem?_eq_some_iff.mp B.hh).1
  have ap:=fun {l:Nat} {o:AObj} (e:y.2.2[l]?=some o)=>Upd.get0 (H':=y.2.2++[AObj.list []]) .app e
  have ne:=fun {l x:Nat} {o o':AObj} {G:AH} (k:l≠x) (e:G[l]?=some o)=>(List.getElem?_set_ne (a:=o') (Ne.symm k)).trans e
  refine niF' (by rw [e1];exact g) (att (ap (bn J2.u)) rfl rfl (Lst.mk _ (ap J2.hh) ⟨len_refs.symm▸hj,?_⟩))
  rw [rng_set (g:=AV.ref)]
  have br:=ne (o':=refs s.k.n (up a.h j y.2.2.length)) (Nat.ne_of_gt (Nat.lt_succ_of_lt lh)) (ap J2.br)
  have fo:=ne (x:=H.length+1) (o':=.list (((bads s z j).map fun r:Nat=>.int (r:Int))++[.int (j:Int)])) (Nat.ne_of_lt (Nat.lt_succ_self _)) (ne (o':=refs s.k.n (up a.h j y.2.2.length)) (Nat.ne_of_gt lh) (ap J2.fo))
  exact ⟨Lst.mk _ br trivial,Lst.mk _ br ⟨lb,Lst.mk _ fo trivial,Lst.mk _ fo ⟨lf,Fxt.mk ⟨_,_,_,_⟩ rfl (J2.bad B hj g (hb j hj g) e1)⟩⟩⟩
variable {E:Nat->AH->Prop}
theorem gd_all {s:SC} {z:Sst} (h:∀ r,r < s.k.n->gd s z r=true):bads s z s.k.n=[]:=List.filter_eq_nil_iff.mpr fun r hr=>by rw [h r (List.mem_range.mp hr)];exact Bool.noConfusion
theorem miss_none {c:Nat->Cell}:∀ (n r:Nat),missF c n r=none->∀ i,i < n->¬ holeF (c (r + i)) < (c (r + i)).length
 | n+1,r,h,i,hi=>by
  rcases Decidable.em (holeF (c r) < (c r).length) with g|g
  ·exact nomatch (if_pos g).symm.trans h
  ·cases i with
   | zero=>exact g
   | succ i =>
    have:=miss_none n (r+1) ((if_neg g).symm.trans h) i (Nat.lt_of_succ_lt_succ hi)
    rw [Nat.add_right_comm] at this
    exact this
theorem miss_full {c:Nat->Cell} {n:Nat} (h:missF c n 0=none) {r:Nat} (hr:r < n):¬ holeF (c r) < (c r).length:=by
 have:=miss_none n 0 h r hr
 rw [Nat.zero_add] at this
 exact this
theorem runs_good {s:SC} {z:Sst} (B:Box s z H) (hf:missF z.c s.k.n 0=none) (hg:∀ r,r < s.k.n->gd s z r=true) (hQ:∀ H',Upd [] H H'->H'[H.length]?=some (.list ((List.range s.k.n).map fun r=>.bytes (octs (z.c r))))->Q (.ref H.length) H') :
  callN T (d + 3) i_Inbox i_runs [.ref s.b] H Q E:=by
 have u0:Upd [] H (H++[AObj.list []]++[AObj.list []]):=.trans .app .app
 refine enter fd_Inbox_runs rfl rfl (mth B.hb rfl (missing_spec B ?_))
 rw [hf]
 refine ⟨rfl,runs_loop (S:=[]) B hf (fun r hr=>miss_full hf hr) (fun _ h=>nomatch h) (fun r hr h=>nomatch (hg r hr).symm.trans h) lenS ⟨u0,Upd.get0 .app (gLast _ _),?_,u0.get0 B.hh,fun _ h=>absurd h (Nat.not_lt_zero _),fun _ _ _=>rfl,fun _ _=>.inl rfl⟩ fun a J=>?_⟩
 ·exact idx lenS.symm (gLast _ _)
 ·have br:=idx (lenS (o:=.list [])) J.br
  rw [gd_all hg] at br
  exact Lst.mk _ br (hQ _ J.u J.fo)
theorem runs_bad {s:SC} {z:Sst} (B:Box s z H) (hf:missF z.c s.k.n 0=none) {r:Nat} (hr:r < s.k.n) (hg:gd s z r=false) (hQ:∀ H' h',Moved s z ⟨h',z.l,leftC s z⟩ H H'->E i_Corrupt H') :
  callN T (d + 3) i_Inbox i_runs [.ref s.b] H Q E:=by
 have u0:Upd [] H (H++[AObj.list []]++[AObj.list []]):=.trans .app .app
 refine enter fd_Inbox_runs rfl rfl (mth B.hb rfl (missing_spec B ?_))
 rw [hf]
 refine ⟨rfl,runs_loop (S:=[s.hl]) B hf (fun r hr=>miss_full hf hr) (fun _ h=>List.mem_singleton.mp h) (fun r hr h=>.head _) lenS ⟨u0.nil,Upd.get0 .app (gLast _ _),?_,u0.get0 B.hh,fun _ h=>absurd h (Nat.not_lt_zero _),fun _ _ _=>rfl,fun _ _=>.inl rfl⟩ fun a J=>?_⟩
 ·exact idx lenS.symm (gLast _ _)
 ·have br:=idx (lenS (o:=.list [])) J.br
  have l0:0 < (bads s z s.k.n).length:=List.length_pos_of_mem (List.mem_filter.mpr ⟨List.mem_range.mpr hr,by rw [hg];rfl⟩)
  refine Lst.mk _ br (ifT (by rw [List.length_map];exact Int.ofNat_lt.mpr l0) ⟨rfl,Lst.mk _ br ⟨(bads s z s.k.n).map fun r:Nat=>(r:Int),by rw [List.map_map];rfl,by rw [List.length_map];exact Nat.le_trans bads_len (Nat.le_trans B.man.le (by decide)),fun i hi=>?_⟩,hQ _ a.h ⟨J.u,J.hh,J.ho,fun r hr=>(J.nh r hr).imp id fun h=>Nat.le_trans (Nat.le_add_right _ 2) h⟩⟩)
  obtain ⟨r,h,rfl⟩:=List.mem_map.mp hi
  exact ⟨Int.lt_of_lt_of_le (by decide) (Int.natCast_nonneg r),Int.lt_trans (Int.ofNat_lt.mpr (bads_lt h)) (Int.lt_of_le_of_lt (Int.ofNat_le.mpr B.man.le) (by decide))⟩
end
end Ab
end
section
namespace Ab
open PySem
structure Made (k:MC) (lim b hl n:Nat) (h:Nat->Nat) (H H':AH):Prop where
 u:Upd [] H H'
 hb:H'[b]?=some (box k.m lim hl)
 hh:H'[hl]?=some (refs n h)
 ho:∀ r,r < n->H'[h r]?=some (.list [])/\hl < h r
structure MdA where
 h:Nat->Nat
 t:Option AV
 H:AH
section
variable {d:Nat} {H:AH} {Q:AV->AH->Prop} {E:Nat->AH->Prop}
theorem getNe {l x:Nat} {o o':AObj} {G:AH} (k:l≠x) (e:G[l]?=some o):(G.set x o')[l]?=some o:=(List.getElem?_set_ne k.symm).trans e
theorem ltOf {l:Nat} {o:AObj} {G:AH} (e:G[l]?=some o):l < G.length:=(List.getElem?_eq_some_iff.mp e).1
theorem getApp {l:Nat} {o:AObj} {G G':AH} (e:G[l]?=some o):(G++G')[l]?=some o:=Upd.get0 .app e
theorem box_loop {k:MC} {lim hl:Nat} {G:AH} {E:KX} (M:Man k H) (h0:H.length < hl) (I0:Made k lim H.length hl 0 (fun _=>0) H G) (hQ:∀ H' h,Made k lim H.length hl k.n h H H'->Q .none H') :
  vSs T (callN T d) b_Inbox_init_0_4 ⟨[some (.ref H.length),some (.ref k.m),some (.int (lim:Int)),none],G⟩ (retK Q) E:=by
 have M0:=M.upd0 I0.u
 refine att M0.hm rfl rfl (Lst.mk _ M0.refs ?_)
 refine forL (fun j (a:MdA)=>⟨[some (.ref H.length),some (.ref k.m),some (.int (lim:Int)),a.t],a.H⟩) (fun j a=>Made k lim H.length hl j a.h H a.H) ⟨fun _=>0,none,G⟩ I0 (fun n a J=>(M.upd0 J.u).refs) (fun j r a e J=>?_) (fun a J=>?_)
 ·have hj:j < k.n:=(List.getElem?_eq_some_iff.mp e).1 |> fun h=>List.length_range (n:=k.n)▸h
  have lh:=ltOf J.hh
  have nh:=Nat.ne_of_gt h0
  refine att J.hb rfl rfl ⟨Lst.mk _ J.hh trivial,Lst.mk _ (getApp J.hh) ⟨Nat.lt_of_le_of_lt (Nat.le_trans (Nat.le_of_eq len_refs) (Nat.le_trans (Nat.le_of_lt hj) M.le)) (by decide),Fxt.mk ⟨up a.h j a.H.length,_,_⟩ rfl ⟨(J.u.trans .app).fresh (.set (.head _)) (Nat.le_of_lt h0),getNe nh.symm (getApp J.hb),?_,fun r hr=>?_⟩⟩⟩
  ·have e2:((List.range j).map fun r=>AV.ref (a.h r))++[AV.ref a.H.length]=(List.range (j+1)).map fun r=>AV.ref (up a.h j a.H.length r):=by
    rw [<-range_push (f:=fun r=>AV.ref (up a.h j a.H.length r)),up_at]
    exact congrArg (·++_) (List.map_congr_left fun r h=>congrArg AV.ref (up_ne (Nat.ne_of_lt (List.mem_range.mp h))).symm)
   rw [refs,<-e2]
   exact getSet (getApp J.hh)
  ·rcases Decidable.em (r=j) with rfl|q
   ·exact ⟨idx up_at (getNe (Nat.ne_of_gt lh) (gLast _ _)),Nat.lt_of_lt_of_le lh (Nat.le_of_eq up_at.symm)⟩
   ·obtain ⟨o1,o2⟩:=J.ho r (Nat.lt_of_le_of_ne (Nat.le_of_lt_succ hr) q)
    exact ⟨idx (up_ne q) (getNe (Nat.ne_of_gt o2) (getApp o1)),Nat.lt_of_lt_of_le o2 (Nat.le_of_eq (up_ne q).symm)⟩
 ·rw [List.length_range] at J
  exact hQ _ _ J
theorem box_init {k:MC} {lim:Nat} (M:Man k H) (l0:0 < lim) (hQ:∀ H' hl h,H.length < hl->Made k lim H.length hl k.n h H H'->Q .none H') :
  callN T (d+1) i_Inbox 1 [.ref H.length,.ref k.m,.int (lim:Int)] (H++[.inst i_Inbox []]) Q E:=by
 have e2:=getSet (o:=.inst i_Inbox [(i_manifesto,.ref k.m),(i_piece_limit,.int (lim:Int))]) (getSet (o:=.inst i_Inbox [(i_manifesto,.ref k.m)]) (getLast' (H:=H) (o:=.inst i_Inbox [])))
 have lt:=ltOf e2
 refine enter fd_Inbox_init rfl rfl (ifF (Int.not_lt.mpr (Int.ofNat_le.mpr l0)) (sta getLast' rfl (sta (getSet getLast') rfl (sta (getApp e2) rfl ?_))))
 exact box_loop M lt ⟨(((Upd.app.fresh (.set (.head _)) (Nat.le_refl _)).fresh (.set (.head _)) (Nat.le_refl _)).trans .app).fresh (.set (.head _)) (Nat.le_refl _),getSet (getApp e2),getNe (Nat.ne_of_gt lt) (gLast _ _),fun _ h=>absurd h (Nat.not_lt_zero _)⟩ fun H' h J=>hQ _ _ _ lt J
end
end Ab
end
section
namespace Ab
open PySem
def ci:Option UInt8->Int
 | none=>-1
 | some x=>(x.toNat:Int)
noncomputable abbrev lst (c:Cell):AObj:=.list ((c.map ci).map .int)
theorem lst_at {c:Cell} {i:Nat} (h:i < c.length):((c.map ci).map AV.int)[i]?=some (.int (ci (cat c i))):=by rw [List.getElem?_map,List.getElem?_map,at_cat h];rfl
theorem lst_len {c:Cell}:((c.map ci).map AV.int).length=c.length:=by rw [List.length_map,List.length_map]
theorem any_ci:∀ c:Cell,(c.map ci).any ((-1:Int)==·)=decide (holeF c < c.length)
 | []=>rfl
 | none::c=>(decide_eq_true (Nat.succ_pos _)).symm
 | some x::c=>(any_ci c).trans (decide_eq_decide.mpr ⟨Nat.succ_lt_succ,Nat.lt_of_succ_lt_succ⟩)
theorem idx_ci:∀ {c:Cell},holeF c < c.length->(c.map ci)[holeF c]?=some (-1)/\∀ j,j < holeF c->(c.map ci)[j]?≠some (-1)
 | none::c,_=>⟨rfl,fun _ h=>absurd h (Nat.not_lt_zero _)⟩
 | some x::c,h=>⟨(idx_ci (Nat.lt_of_succ_lt_succ h)).1,fun
  | 0,_,e=>nomatch e
  | j+1,g,e=>(idx_ci (Nat.lt_of_succ_lt_succ h)).2 j (Nat.lt_of_succ_lt_succ g) e⟩
structure Tbl (s:SC) (z:Sst) (H:AH):Prop where
 hc:H[s.cl]?=some (refs s.k.n z.l)
 ho:∀ r,r < s.k.n->H[z.l r]?=some (lst (z.c r))
 nl:s.k.n<=150
 le:∀ r,r < s.k.n->(z.c r).length<=200
theorem Tbl.upd0 {s:SC} {z:Sst} {H H':AH} (B:Tbl s z H) (u:Upd [] H H'):Tbl s z H':=⟨u.get0 B.hc,fun r hr=>u.get0 (B.ho r hr),B.nl,B.le⟩
section
variable {d:Nat} {H:AH} {Q:AV->AH->Prop} {E:Nat->AH->Prop}
theorem hole_spec {s:SC} {z:Sst} (B:Tbl s z H) (hQ:Q (mval (missF z.c s.k.n 0)) H):callN T (d+1) 0 i_law_hole [.ref s.cl] H Q E:=by
 refine enter fd_law_hole rfl rfl (Lst.mk _ B.hc ?_)
 rw [len_refs]
 refine ⟨Nat.le_trans B.nl (by decide),forN (fun j (a:Option AV)=>⟨[some (.ref s.cl),a],H⟩) (fun j _=>missF z.c s.k.n 0=missF z.c (s.k.n - j) j) none rfl (fun j a hj J=>?_) fun a J=>?_⟩
 ·refine Lst.mk _ B.hc (At.mk _ (rng_at hj) (Lst.mk _ (B.ho j hj) ⟨_,rfl,ifX (any_ci _) ?_⟩))
  rcases Decidable.em (holeF (z.c j) < (z.c j).length) with h|h
  ·rw [J,miss_t hj h] at hQ
   exact ifT h (Lst.mk _ B.hc (At.mk _ (rng_at hj) ⟨Lst.mk _ (B.ho j hj) trivial,Lst.mk _ (B.ho j hj) ⟨_,_,rfl,(idx_ci h).1,(idx_ci h).2,hQ⟩⟩))
  ·exact ifF h (Fxt.mk _ rfl (J.trans (miss_f hj h)))
 ·rw [J,Nat.sub_self] at hQ
  exact hQ
noncomputable abbrev natL (nums:List Nat):AObj:=.list (nums.map fun n:Nat=>AV.int (n:Int))
theorem draw_lt {y q:Nat} (h1:y < 999983) (h2:q<=1000):y + 7919 * q < 10000000:=Nat.lt_of_lt_of_le (Nat.add_lt_add_of_lt_of_le h1 (Nat.mul_le_mul_left 7919 h2)) (by decide)
theorem draw_spec {l:Nat} {nums:List Nat} {i:Nat} (h1:H[l]?=some (natL nums)) (h0:0 < nums.length) (hl:nums.length<=100) (hn:∀ n∈nums,n < 999983) (hi:i<=1000) (hQ:∀ x:Nat,x < 10000000->Q (.int (x:Int)) H) :
  callN T (d+1) 0 i_law_draw [.ref l,.int (i:Int)] H Q E:=by
 have lm:(nums.map fun n:Nat=>AV.int (n:Int)).length=nums.length:=List.length_map _
 refine enter fd_law_draw rfl rfl (Lst.mk _ h1 ?_)
 rw [lm]
 have hlt:=Nat.mod_lt i h0
 have hx:nums[i % nums.length]?=some nums[i % nums.length]:=List.getElem?_eq_getElem hlt
 have hm:=hn _ (List.getElem_mem hlt)
 generalize nums[i % nums.length]=y at hx hm
 refine ⟨Int.ofNat_lt.mpr h0,Lst.mk _ h1 (At.mk (.int (y:Int)) (by rw [List.getElem?_map];exact congrArg (Option.map _) hx) (Lst.mk _ h1 ?_))⟩
 rw [lm]
 have hq:i / nums.length<=1000:=Nat.le_trans (Nat.div_le_self _ _) hi
 exact ⟨⟨Int.ofNat_lt.mpr h0,Int.ofNat_lt.mpr (Nat.lt_of_le_of_lt hl (by decide))⟩,by decide,bigN (n:=i / nums.length) (Nat.lt_of_le_of_lt hq (by decide)),hQ _ (draw_lt hm hq)⟩
theorem sum_b {b:List UInt8} (h:b.length<=200) (hQ:Q (.int (chk b:Int)) H):callN T (d+1) 0 i_law_sum [.bytes b] H Q E :=
 have q:∀ i:Int,i=((b.map (·.toNat)).sum:Nat)->Q (.int (i * 251 + (b.length:Int) * 65537 + 7)) H:=fun i e=>e▸hQ
 enter fd_law_sum rfl rfl ⟨big_sum h,by decide,big_len h,by decide,q _ (sum_cast b)⟩
theorem ints_some (b:List UInt8):((b.map some).map ci)=b.map fun x=>(x.toNat:Int):=List.map_map ..
theorem sum_l {c:Cell} {a:Nat} (ha:H[a]?=some (lst c)) (hc:¬ holeF c < c.length) (h:c.length<=200) (hQ:Q (.int (chk (octs c):Int)) H):callN T (d+1) 0 i_law_sum [.ref a] H Q E:=by
 have q:∀ i j:Int,i=(((octs c).map (·.toNat)).sum:Nat)->j=((octs c).length:Nat)->Q (.int (i * 251 + j * 65537 + 7)) H:=fun i j e e2=>e▸e2▸hQ
 have e:=full_map hc
 generalize octs c=b at *
 subst e
 rw [List.length_map] at h
 refine enter fd_law_sum rfl rfl (Lst.mk _ ha ⟨_,rfl,?_⟩)
 rw [ints_some]
 refine ⟨big_sum h,by decide,Lst.mk _ ha ?_⟩
 rw [List.length_map,List.length_map,List.length_map]
 exact ⟨big_len h,by decide,q _ _ (sum_cast b) rfl⟩
theorem chk_mid (u v:List UInt8) (x:UInt8):chk (u++[x]++v)=((u.map (·.toNat)).sum + x.toNat + (v.map (·.toNat)).sum) * 251 + (u.length+1 + v.length) * 65537 + 7:=by
 rw [chk,List.map_append,List.map_append,List.sum_append,List.sum_append,List.length_append,List.length_append]
 rfl
theorem chk_ne {u v:List UInt8} {x y:UInt8} (h:x.toNat≠y.toNat):chk (u++[x]++v)≠chk (u++[y]++v):=fun e=>by
 rw [chk_mid,chk_mid] at e
 exact h (Nat.add_left_cancel (Nat.add_right_cancel (Nat.eq_of_mul_eq_mul_right (by decide) (Nat.add_right_cancel (Nat.add_right_cancel e)))))
theorem mod_ne {x y:Nat} (hx:x < 256) (hy:y % 256≠0):(x + y) % 256≠x:=fun e=>by
 have:=Nat.sub_mod_eq_zero_of_mod_eq (e.trans (Nat.mod_eq_of_lt hx).symm)
 rw [Nat.add_sub_cancel_left] at this
 exact hy this
theorem spoil_spec {b:List UInt8} {p y:Nat} (hp:p < b.length) (hb:b.length<=200) (hQ:∀ b' H',b'.length=b.length->(y % 256≠0->chk b'≠chk b)->Upd [] H H'->Q (.bytes b') H') :
  callN T (d+1) 0 i_law_spoil [.bytes b,.int (p:Int),.int (y:Int)] H Q E:=by
 have hx:b[p]?=some b[p]:=List.getElem?_eq_getElem hp
 have big:∀ {k},k<=b.length->k < 1152921504606846976:=fun h=>Nat.lt_of_le_of_lt (Nat.le_trans h hb) (by decide)
 have eb:cutL b 0 p++[b[p]]++cutL b (p+1) b.length=b:=by
  rw [cutL,cutL,List.drop_zero,List.take_length,List.append_assoc,List.singleton_append,<-List.drop_eq_getElem_cons hp,List.take_append_drop]
 have l1:(cutL b 0 p).length=p:=cutLen (Nat.le_of_lt hp)
 have l2:(cutL b (p+1) b.length).length=b.length - (p+1):=cutLen (Nat.le_refl _)
 have hw:(b[p].toNat + y) % 256 < 256:=Nat.mod_lt _ (by decide)
 have lim:∀ {k},k<=b.length->k<=LIM:=fun h=>Nat.le_trans (Nat.le_trans h hb) (by decide)
 have l3:∀ x:UInt8,(cutL b 0 p++[x]).length=p+1:=fun x=>by rw [List.length_append,l1];rfl
 refine enter fd_law_spoil rfl rfl ⟨big (Nat.le_of_lt hp),At.mk _ hx ⟨by decide,.inl (Lst.mk _ getLast' ⟨[UInt8.ofNat ((b[p].toNat + y) % 256)],congrArg (fun k:Nat=>[AV.int (k:Int)]) (ofNat_toNat hw).symm,lim (l1.symm▸hp),big hp,?_,hQ _ _ ?_ (fun hy=>?_) .app⟩)⟩⟩
 ·rw [l3,l2,Nat.add_sub_cancel' hp]
  exact lim (Nat.le_refl _)
 ·rw [List.length_append,l3,l2,Nat.add_sub_cancel' hp]
 ·refine fun e=>chk_ne ?_ (e.trans (congrArg chk eb.symm))
  rw [ofNat_toNat hw]
  exact mod_ne b[p].toNat_lt hy
end
end Ab
end
section
namespace Ab
open PySem
theorem map_octs:∀ {l:Cell},(∀ o∈l,o.isSome=true)->(octs l).map some=l
 | [],_=>rfl
 | none::l,h=>nomatch h none (.head _)
 | some x::l,h=>congrArg (some x::·) (map_octs fun o ho=>h o (.tail _ ho))
theorem cut_map {α β:Type} (f:α->β) (xs:List α) (a b:Nat):cutL (xs.map f) a b=(cutL xs a b).map f:=by rw [cutL,cutL,List.map_drop,List.map_take]
section
variable {c:Cell} {a e:Nat}
structure Run (c:Cell) (a e:Nat) (b:List UInt8):Prop where
 eq:cutL c a e=b.map some
 len:b.length=e - a
 at':∀ t x,b[t]?=some x->cat c (a + t)=some x
theorem run_of (he:e<=c.length) (h:∀ i,a<=i->i < e->(cat c i).isSome=true):Run c a e (octs (cutL c a e)):=by
 have eq:(octs (cutL c a e)).map some=cutL c a e:=map_octs fun o ho=>by
  obtain ⟨t,ht,rfl⟩:=List.getElem_of_mem ho
  obtain ⟨g1,g2⟩:=cut_at c (List.getElem?_eq_getElem ht)
  have:=h _ (Nat.le_add_right a t) g1
  rw [cat_of g2] at this
  exact this
 have l:=congrArg List.length eq
 rw [List.length_map,cutLen he] at l
 refine ⟨eq.symm,l,fun t x g=>?_⟩
 have g2:=congrArg (·[t]?) eq
 rw [List.getElem?_map,g] at g2
 exact cat_of (cut_at c g2.symm).2
theorem Run.ints {b:List UInt8} (R:Run c a e b):cutL ((c.map ci).map AV.int) a e=octInts b:=by rw [cut_map,cut_map,R.eq,ints_some,List.map_map];rfl
end
structure StA where
 a:Nat
 e:Option AV
 H:AH
structure StI (c:Cell) (H:AH) (a:StA):Prop where
 u:Upd [] H a.H
 fo:a.H[H.length]?=some (pcR (strR c a.a))
 f:∀ b,layR (strR c a.a) a.a b=(a.a,b)::strR c a.a
 le:a.a<=c.length+1
theorem StI.next {c:Cell} {H G:AH} {a e:Nat} {t:Option AV} (u:Upd [] H G) (fo:G[H.length]?=some (pcR (strR c e))) (he:e<=c.length) (hn:cat c e=none):StI c H ⟨e+1,t,G⟩:=by
 have q:=strR_no hn
 refine ⟨u,q▸fo,fun b=>?_,Nat.succ_le_succ he⟩
 dsimp only
 rw [q]
 have l:=(dec_str (c:=c) e).le
 generalize strR c e=R at l
 cases R with
 | nil=>rfl
 | cons p r=>exact layN (Nat.ne_of_lt (Nat.lt_succ_of_le l))
section
variable {d:Nat} {H:AH} {Q:AV->AH->Prop} {E:Nat->AH->Prop}
theorem str_next {c:Cell} {H0:AH} {a e l:Nat} {E:KX} {Q:Fl->St->Prop} (ha:H[l]?=some (lst c)) (hc:c.length<=200) (u:Upd [] H0 H) (fo:H[H0.length]?=some (pcR (strR c a))) (f:∀ b,layR (strR c a) a b=(a,b)::strR c a) (hae:a<=e) (he:e<=c.length)
  (hs:∀ i,a<=i->i < e->(cat c i).isSome=true) (hn:cat c e=none) (hQ:∀ G,StI c H0 ⟨e+1,some (.int (e:Int)),G⟩->Q .next ⟨[some (.ref l),some (.ref H0.length),some (.int ((e+1:Nat):Int)),some (.int (e:Int))],G⟩) :
  vSs T (callN T d) b_law_stretches_1_2 ⟨[some (.ref l),some (.ref H0.length),some (.int (a:Int)),some (.int (e:Int))],H⟩ Q E:=by
 have R:=run_of he hs
 have big:∀ {k},k<=c.length->k < 1152921504606846976:=fun h=>Nat.lt_of_le_of_lt (Nat.le_trans h hc) (by decide)
 rcases Nat.lt_or_ge a e with h|h
 ·have st:=lay_step (p:=a) (R.len▸Nat.sub_pos_of_lt h) (Nat.le_refl _) (fun i h1 h2=>absurd h1 (Nat.not_le.mpr h2)) R.at'
  rw [f,R.len,Nat.add_sub_cancel' hae] at st
  refine ifT (Int.ofNat_lt.mpr h) ⟨Lst.mk _ fo trivial,.inl (Lst.mk _ ha ⟨big (Nat.le_trans hae he),big he,.inl (Lst.mk _ (gLast _ _) ⟨_,R.ints,Lst.mk _ (getApp fo) ⟨?_,hQ _ (.next (a:=a) ((u.trans .app).fresh (.set (.head _)) (Nat.le_refl _)) ?_ he hn)⟩⟩)⟩)⟩
  ·rw [List.length_reverse,List.length_map]
   exact Nat.lt_of_le_of_lt (Nat.le_trans (strR_len c a) (Nat.le_trans hae (Nat.le_trans he hc))) (by decide)
  ·rw [<-st,pcR,List.map_cons,List.reverse_cons]
   exact getSet (getApp fo)
 ·obtain rfl:=Nat.le_antisymm h hae
  exact ifF (Int.not_lt.mpr (Int.ofNat_le.mpr (Nat.le_refl _))) (hQ _ (.next (a:=e) u fo he hn))
theorem stretches_spec {l:Nat} {c:Cell} (ha:H[l]?=some (lst c)) (hc:c.length<=200) (hQ:∀ H',Upd [] H H'->Q (.tup ((str c).map pv)) H'):callN T (d+1) 0 i_law_stretches [.ref l] H Q E:=by
 refine enter fd_law_stretches rfl rfl ?_
 refine whl (fun a:StA=>c.length+1 - a.a) (fun a=>⟨[some (.ref l),some (.ref H.length),some (.int (a.a:Int)),a.e],a.H⟩) (StI c H) ⟨0,none,H++[.list []]⟩ ⟨.app,getLast',fun _=>rfl,Nat.zero_le _⟩ fun a I=>?_
 have ha1:=I.u.get0 ha
 refine Lst.mk _ ha1 ?_
 rw [lst_len]
 rcases Nat.lt_or_ge a.a c.length with h|h
 ·refine ifT (Int.ofNat_lt.mpr h) (whl (fun e:Nat=>c.length - e) (fun e=>⟨[some (.ref l),some (.ref H.length),some (.int (a.a:Int)),some (.int (e:Int))],a.H⟩) (fun e=>(a.a<=e/\e<=c.length)/\∀ i,a.a<=i->i < e->(cat c i).isSome=true) a.a ⟨⟨Nat.le_refl _,Nat.le_of_lt h⟩,fun i h1 h2=>absurd h1 (Nat.not_le.mpr h2)⟩ fun e J=>?_)
  have nx:∀ {e},a.a<=e->c.length+1 - (e+1) < c.length+1 - a.a:=fun g=>Nat.sub_lt_sub_left (Nat.lt_succ_of_lt h) (Nat.lt_succ_of_le g)
  refine Lst.mk _ ha1 ?_
  rw [lst_len]
  rcases Nat.lt_or_ge e c.length with g|g
  ·refine ifT (Int.ofNat_lt.mpr g) (Lst.mk _ ha1 (At.mk _ (lst_at g) ?_))
   cases q:cat c e with
   | some x=>exact Nxt.mk (e+1) rfl (Nat.sub_lt_sub_left g (Nat.lt_succ_self _)) ⟨⟨Nat.le_succ_of_le J.1.1,g⟩,fun i h1 h2=>upto (P:=fun i=>(cat c i).isSome=true) (q▸rfl) h2 (J.2 i h1)⟩
   | none=>exact str_next ha1 hc I.u I.fo I.f J.1.1 J.1.2 J.2 q fun G K=>Nxt.mk ⟨_,_,_⟩ rfl (nx J.1.1) K
  ·exact ifF (Int.not_lt.mpr (Int.ofNat_le.mpr g)) (ifF (Int.not_lt.mpr (Int.ofNat_le.mpr g)) (str_next ha1 hc I.u I.fo I.f J.1.1 J.1.2 J.2 (cat_ge g) fun G K=>Nxt.mk ⟨_,_,_⟩ rfl (nx J.1.1) K))
 ·refine ifF (Int.not_lt.mpr (Int.ofNat_le.mpr h)) (Lst.mk _ I.fo ?_)
  have e:strR c a.a=strR c c.length:=strR_none h fun i h1 _=>cat_ge h1
  have e2:((strR c a.a).map pv).reverse=(str c).map pv:=by rw [e,str,List.map_reverse]
  rw [e2]
  exact hQ _ I.u
end
end Ab
end
section
namespace Ab
open PySem
structure Ch (F:Nat->Prop) (H H':AH):Prop where
 le:H.length<=H'.length
 at':∀ l o,¬ F l->H[l]?=some o->H'[l]?=some o
section
variable {F F':Nat->Prop} {H H' H'':AH} {S:List Nat} {l:Nat} {o:AObj}
theorem Upd.ch (u:Upd S H H') (h:∀ x∈S,F x):Ch F H H':=⟨u.le,fun l o n e=>u.get e fun q=>n (h l q)⟩
theorem Upd.ch0 (u:Upd [] H H'):Ch F H H':=u.ch fun _ q=>nomatch q
theorem Ch.trans (h1:Ch F H H') (h2:Ch F' H' H'') (hs:∀ x,F' x->F x\/H.length<=x):Ch F H H'' :=
 ⟨Nat.le_trans h1.le h2.le,fun l o n e=>h2.at' l o (fun q=>(hs l q).elim n fun g=>Nat.not_lt.mpr g (ltOf e)) (h1.at' l o n e)⟩
end
def Foot (s:SC) (z:Sst) (x:Nat):Prop:=x=s.hl\/x=s.cl\/∃ r,r < s.k.n/\z.l r=x
structure Side (s:SC) (z:Sst) (H:AH):Prop where
 bx:Box s z H
 tb:Tbl s z H
 hc:s.cl≠s.hl
 lh:∀ r,r < s.k.n->z.l r≠s.hl
 lc:∀ r,r < s.k.n->z.l r≠s.cl
 li:∀ r,r < s.k.n->∀ q,q < s.k.n->z.l r=z.l q->r=q
 nc:∀ r,r < s.k.n->z.h r≠s.cl
 nl:∀ r,r < s.k.n->∀ q,q < s.k.n->z.h r≠z.l q
 Nc:s.k.N<=s.cl
 Nl:∀ r,r < s.k.n->s.k.N<=z.l r
structure Go (s:SC) (z z':Sst) (H H':AH):Prop where
 u:Ch (Foot s z) H H'
 l:∀ r,r < s.k.n->z'.l r=z.l r\/H.length<=z'.l r
 h:∀ r,r < s.k.n->z'.h r=z.h r\/H.length<=z'.h r
section
variable {s:SC} {z z' z'':Sst} {H H' H'':AH}
theorem Go.foot (g:Go s z z' H H') {x:Nat}:Foot s z' x->Foot s z x\/H.length<=x
 | .inl e=>.inl (.inl e)
 | .inr (.inl e)=>.inl (.inr (.inl e))
 | .inr (.inr ⟨r,hr,e⟩)=>(g.l r hr).imp (fun q=>.inr (.inr ⟨r,hr,q.symm.trans e⟩)) fun q=>e▸q
theorem Go.nil (u:Upd [] H H'):Go s z z H H':=⟨u.ch0,fun _ _=>.inl rfl,fun _ _=>.inl rfl⟩
theorem Go.trans (g:Go s z z' H H') (g':Go s z' z'' H' H''):Go s z z'' H H'' :=
 ⟨g.u.trans g'.u fun x h=>g.foot h,fun r hr=>(g'.l r hr).elim (fun e=>(g.l r hr).imp e.trans fun q=>e▸q) fun q=>.inr (Nat.le_trans g.u.le q),fun r hr=>(g'.h r hr).elim (fun e=>(g.h r hr).imp e.trans fun q=>e▸q) fun q=>.inr (Nat.le_trans g.u.le q)⟩
theorem Box.upd0 (B:Box s z H) (u:Upd [] H H'):Box s z H':=⟨B.man.upd0 u,u.get0 B.hb,u.get0 B.hh,fun r hr=>u.get0 (B.ho r hr),B.sz,B.l1,B.l0,B.hN,B.ne⟩
theorem Side.upd0 (S:Side s z H) (u:Upd [] H H'):Side s z H':=⟨S.bx.upd0 u,S.tb.upd0 u,S.hc,S.lh,S.lc,S.li,S.nc,S.nl,S.Nc,S.Nl⟩
end
section
variable {d:Nat} {H:AH} {Q:AV->AH->Prop} {E:Nat->AH->Prop}
section
variable {k:Bool->Prop} {o:Option (Nat×Nat)}
theorem same_tup {n:Nat} {as:List AV} (h:∀ v∈as,Same H n v v):Same H (n+1) (.tup as) (.tup as):=⟨rfl,fun i x y e1 e2=>by
 cases e1.symm.trans e2
 exact h _ (List.mem_of_getElem? e1)⟩
theorem same_map {α:Type} {n:Nat} {xs:List α} {f:α->AV} (h:∀ x,Same H n (f x) (f x)):Same H (n+1) (.tup (xs.map f)) (.tup (xs.map f)):=same_tup fun v hv=>by
 obtain ⟨x,_,rfl⟩:=List.mem_map.mp hv
 exact h x
theorem same_nil {n:Nat}:∀ v∈([]:List AV),Same H n v v:=fun _ h=>nomatch h
theorem same_cons {n:Nat} {v:AV} {as:List AV} (h1:Same H n v v) (h2:∀ v∈as,Same H n v v):∀ x∈v::as,Same H n x x
 | _,.head _=>h1
 | x,.tail _ h=>h2 x h
theorem eq_mval (h:k true):eqP H (mval o) (mval o) k:=by
 cases o with
 | none=>exact .same rfl h
 | some p=>exact .same (same_tup (same_cons rfl (same_cons rfl same_nil))) h
theorem none_mval (h:k o.isNone):isNone (mval o) k:=by cases o <;> exact h
end
theorem same_mf (m:MF) {n:Nat}:Same H (n + 4) m.row m.row:=same_tup (same_cons rfl (same_cons rfl (same_cons rfl (same_cons rfl (same_cons (same_map fun r=>same_tup (same_cons rfl (same_cons rfl (same_cons rfl (same_cons rfl (same_cons rfl same_nil)))))) same_nil)))))
theorem same_row (m:MF) (n:Nat) (c:Nat->Cell):Same H 7 (.tup [m.row,prow n c]) (.tup [m.row,prow n c]):=same_tup (same_cons (same_mf m (n:=2)) (same_cons (same_map fun r=>same_map fun p=>same_tup (same_cons rfl (same_cons rfl same_nil))) same_nil))
theorem same_spec {s:SC} {z:Sst} (S:Side s z H) (hQ:∀ H',Upd [] H H'->Q (.bool true) H'):callN T (d + 4) 0 i_law_same [.ref s.b,.ref s.cl,s.k.mf.row] H Q E:=by
 refine enter fd_law_same rfl rfl ⟨rfl,hole_spec S.tb (mth S.bx.hb rfl (missing_spec S.bx (eq_mval (mth S.bx.hb rfl (whole_spec S.bx ⟨rfl,none_mval (niT rfl ?_)⟩)))))⟩
 refine mth S.bx.hb rfl (row_spec S.bx fun H1 u1=>?_)
 have B:=S.tb.upd0 u1
 refine Lst.mk _ B.hc (forL (fun j (a:Option AV×AH)=>⟨[a.1],a.2⟩) (fun j a=>RowsI H1 (((List.range s.k.n).take j).map fun r=>AV.tup ((str (z.c r)).map pv)) a) (none,H1++[.list []]) ⟨.app,getLast'⟩ (fun n a J=>J.u.get0 B.hc) (fun j r a e J=>?_) fun a J=>?_)
 ·have hr:=List.mem_range.mp (List.mem_of_getElem? e)
  exact ⟨rfl,stretches_spec (J.u.get0 (B.ho r hr)) (B.le r hr) fun H2 u2=>Lst.mk _ (u2.get0 J.o) ⟨len_take (n:=150) (List.length_range.symm▸B.nl) (by decide),Fxt.mk (_,_) rfl (J.push u2 (map_take_succ e))⟩⟩
 ·have o:=J.o
  rw [List.take_length] at o
  exact Lst.mk _ o (.same (same_row _ _ _) (hQ _ (u1.trans J.u)))
theorem gather_short {s:SC} {z:Sst} (B:Box s z H) (h:(missF z.c s.k.n 0).isSome=true) (hQ:∀ l H',Upd [] H H'->Q (.tup [.int 1,.ref l]) H'):callN T (d + 4) 0 i_law_gather [.ref s.b] H Q E :=
 enter fd_law_gather rfl rfl (mth B.hb rfl (runs_short B h ⟨rfl,rfl,hQ _ _ .app⟩))
theorem gather_good {s:SC} {z:Sst} (B:Box s z H) (hf:missF z.c s.k.n 0=none) (hg:∀ r,r < s.k.n->gd s z r=true) (hQ:∀ H',Upd [] H H'->H'[H.length]?=some (.list ((List.range s.k.n).map fun r=>.bytes (octs (z.c r))))->Q (.tup [.int 0,.ref H.length]) H') :
  callN T (d + 4) 0 i_law_gather [.ref s.b] H Q E :=
 enter fd_law_gather rfl rfl (mth B.hb rfl (runs_good B hf hg hQ))
theorem gather_bad {s:SC} {z:Sst} (B:Box s z H) (hf:missF z.c s.k.n 0=none) {r:Nat} (hr:r < s.k.n) (hg:gd s z r=false) (hQ:∀ l H1 H' h',Moved s z ⟨h',z.l,leftC s z⟩ H H1->Upd [] H1 H'->Q (.tup [.int 2,.ref l]) H') :
  callN T (d + 4) 0 i_law_gather [.ref s.b] H Q E :=
 enter fd_law_gather rfl rfl (mth B.hb rfl (runs_bad B hf hr hg fun H' h' M=>⟨rfl,rfl,rfl,rfl,hQ _ _ _ _ M .app⟩))
end
end Ab
end
section
namespace Ab
open PySem
section
variable {c:Cell} {o j:Nat} {pc:List UInt8}
theorem fill_next {i:Nat} (h:i≠o + j) (hl:i < c.length):cat (fill c o (pc.take (j+1))) i=cat (fill c o (pc.take j)) i:=by
 rw [fill_at hl,fill_at hl]
 congr 1
 rcases Nat.lt_or_ge i o with g|g
 ·exact (if_neg (Nat.not_le.mpr g)).trans (if_neg (Nat.not_le.mpr g)).symm
 ·rw [if_pos g,if_pos g,List.getElem?_take,List.getElem?_take]
  have n:i - o≠j:=fun q=>h (q▸(Nat.add_sub_cancel' g).symm)
  rcases Nat.lt_or_ge (i - o) j with k|k
  ·rw [if_pos k,if_pos (Nat.lt_succ_of_lt k)]
  ·rw [if_neg (Nat.not_lt.mpr k),if_neg (Nat.not_lt.mpr (Nat.lt_of_le_of_ne k n.symm))]
theorem fill_here (hl:o + j < c.length):cat (fill c o (pc.take j)) (o + j)=cat c (o + j):=by
 cases e:cat c (o + j) with
 | some x=>exact fill_some e
 | none=>exact fill_none e (.inr (Nat.add_le_add_left (List.length_take_le _ _) o))
theorem fill_skip {x:UInt8} (h:cat c (o + j)=some x):fill c o (pc.take j)=fill c o (pc.take (j+1)):=cell_ext (fillLen.trans fillLen.symm) fun i hi=>by
 rcases Decidable.em (i=o + j) with rfl|g
 ·rw [fill_some h,fill_some h]
 ·exact (fill_next g (fillLen▸hi)).symm
theorem cat_set {c:Cell} {i k:Nat} {y:Option UInt8} (h:k < c.length):cat (c.set k y) i=if k=i then y else cat c i:=by
 rw [cat,List.getElem?_set]
 rcases Decidable.em (k=i) with rfl|g
 ·rw [if_pos rfl,if_pos rfl,if_pos h];rfl
 ·rw [if_neg g,if_neg g];rfl
theorem fill_succ {x:UInt8} (hl:o + j < c.length) (h:cat c (o + j)=none) (hx:pc[j]?=some x):(fill c o (pc.take j)).set (o + j) (some x)=fill c o (pc.take (j+1)):=cell_ext (by rw [List.length_set,fillLen,fillLen]) fun i hi=>by
 rw [cat_set (by rw [fillLen];exact hl)]
 rcases Decidable.em (o + j=i) with rfl|g
 ·rw [if_pos rfl,fill_new hl h (Nat.le_add_right _ _),Nat.add_sub_cancel_left,List.getElem?_take,if_pos (Nat.lt_succ_self _),hx]
 ·rw [if_neg g]
  exact (fill_next (Ne.symm g) (fillLen▸hi)).symm
theorem new_skip {x:UInt8} {b:Bool} (h:cat c (o + j)=some x) (n:b=true↔New c o (o + j)):b=true↔New c o (o + (j+1)) :=
 n.trans ⟨fun ⟨i,h1,h2,h3⟩=>⟨i,h1,Nat.lt_succ_of_lt h2,h3⟩,fun ⟨i,h1,h2,h3⟩=>⟨i,h1,Nat.lt_of_le_of_ne (Nat.le_of_lt_succ h2) (fun q=>nomatch h3.symm.trans ((congrArg (cat c) q).trans h)),h3⟩⟩
theorem take_min (k:Nat) (pc:List UInt8):pc.take (min k pc.length)=pc.take k:=(Nat.le_total k pc.length).elim (fun h=>by rw [Nat.min_eq_left h]) fun h=>by rw [Nat.min_eq_right h,List.take_length,List.take_of_length_le h]
end
structure LtA where
 new:Bool
 t:Option AV
 H:AH
structure LtI (c:Cell) (o l:Nat) (pc:List UInt8) (H:AH) (j:Nat) (a:LtA):Prop where
 u:Upd [l] H a.H
 ho:a.H[l]?=some (lst (fill c o (pc.take j)))
 n:a.new=true↔New c o (o + j)
theorem fill_zero {c:Cell} {o:Nat}:fill c o []=c:=fill_same fun ⟨_,h1,h2,_⟩=>absurd h1 (Nat.not_le.mpr h2)
section
variable {s:SC} {z:Sst} {H H':AH} {S:List Nat}
theorem Box.upd (B:Box s z H) (u:Upd S H H') (h1:∀ x∈S,s.k.N<=x/\x≠s.hl) (h2:s.b∉S) (h3:∀ r,r < s.k.n->z.h r∉S):Box s z H' :=
 ⟨B.man.upd u fun x h=>(h1 x h).1,u.get B.hb h2,u.get B.hh fun q=>(h1 _ q).2 rfl,fun r hr=>u.get (B.ho r hr) (h3 r hr),B.sz,B.l1,B.l0,B.hN,B.ne⟩
noncomputable abbrev at1 (z:Sst) (r h:Nat) (c:Cell):Sst:=⟨up z.h r h,z.l,up z.c r c⟩
theorem Side.took {r h':Nat} {c':Cell} {H1:AH} (S:Side s z H) (hr:r < s.k.n) (u:Upd [z.l r] H H1) (ho:H1[z.l r]?=some (lst c')) (B1:Box s z H1) (T:Took s z r c' H1 H' h') (hl:c'.length=(z.c r).length) :
  Side s (at1 z r h' c') H'/\Go s z (at1 z r h' c') H H':=by
 have lr:=fun {q:Nat} {o:AObj} (n:q≠z.l r) (e:H[q]?=some o)=>u.get e fun k=>n (List.mem_singleton.mp k)
 have lt:=fun {q:Nat} {o:AObj} (n:q≠s.hl) (e:H1[q]?=some o)=>T.u.get e fun k=>n (List.mem_singleton.mp k)
 have hx:∀ q,q < s.k.n->up z.h r h' q=z.h q\/H.length<=up z.h r h' q:=fun q hq=>by
  rcases Decidable.em (q=r) with rfl|g
  ·rw [up_at]
   exact T.nh.imp id (Nat.le_trans u.le)
  ·exact .inl (up_ne g)
 have off:∀ q,q < s.k.n->∀ x,x < H.length->z.h q≠x->up z.h r h' q≠x:=fun q hq x lx n=>(hx q hq).elim (fun e=>e▸n) fun g=>Nat.ne_of_gt (Nat.lt_of_lt_of_le lx g)
 have cl:=fun q=>up z.c r c' q
 have B:Box s (at1 z r h' c') H':=by
  refine ⟨B1.man.upd T.u fun x h=>List.mem_singleton.mp h▸B1.hN,lt (fun q=>nomatch (q▸B1.hb).symm.trans B1.hh) B1.hb,T.hh,fun q hq=>?_,fun q hq=>?_,B1.l1,B1.l0,B1.hN,fun q hq=>off q hq _ (ltOf S.bx.hh) (B1.ne q hq)⟩
  ·rcases Decidable.em (q=r) with rfl|g
   ·exact idx up_at (T.ho.trans (congrArg (fun c=>some (pcs c)) up_at.symm))
   ·exact idx (up_ne g) ((lt (B1.ne q hq) (B1.ho q hq)).trans (congrArg (fun c=>some (pcs c)) (up_ne g).symm))
  ·rcases Decidable.em (q=r) with rfl|g
   ·exact (B1.sz q hq).trans (hl.symm.trans (congrArg List.length up_at.symm))
   ·exact (B1.sz q hq).trans (congrArg List.length (up_ne g).symm)
 refine ⟨⟨B,⟨lt S.hc (lr (S.lc r hr).symm S.tb.hc),fun q hq=>?_,S.tb.nl,fun q hq=>B.le hq⟩,S.hc,S.lh,S.lc,S.li,fun q hq=>off q hq _ (ltOf S.tb.hc) (S.nc q hq),fun q hq p hp=>off q hq _ (ltOf (S.tb.ho p hp)) (S.nl q hq p hp),S.Nc,S.Nl⟩,⟨(u.ch fun x h=>.inr (.inr ⟨r,hr,(List.mem_singleton.mp h).symm⟩)).trans (T.u.ch (F:=Foot s z) fun x h=>.inl (List.mem_singleton.mp h)) fun _ h=>.inl h,fun _ _=>.inl rfl,hx⟩⟩
 rcases Decidable.em (q=r) with rfl|g
 ·exact (lt (S.lh q hq) ho).trans (congrArg (fun c=>some (lst c)) up_at.symm)
 ·exact (lt (S.lh q hq) (lr (fun e=>g (S.li q hq r hr e)) (S.tb.ho q hq))).trans (congrArg (fun c=>some (lst c)) (up_ne g).symm)
end
end Ab
end
section
namespace Ab
open PySem
section
variable {d:Nat} {H:AH} {Q:AV->AH->Prop} {E:Nat->AH->Prop}
theorem eqb {P:Prop} {b c:Bool} (h:b=true↔P) (g:c=true↔P):b=c:=Bool.eq_iff_iff.mpr (h.trans g.symm)
theorem ltake_loop {s:SC} {z:Sst} {r o:Nat} {pc:List UInt8} {E:KX} (S:Side s z H) (hr:r < s.k.n) (ho:o + pc.length<=(z.c r).length)
  (hQ:∀ (H1:AH) (b:Bool) (t:Option AV),Upd [z.l r] H H1->H1[z.l r]?=some (lst (fill (z.c r) o (pc.take s.lim)))->(b=true↔New (z.c r) o (o + (pc.take s.lim).length)) →
   vSs T (callN T d) b_law_take_0_2 ⟨[some (.ref s.b),some (.ref s.cl),some (.int (s.lim:Int)),some (.int (r:Int)),some (.int (o:Int)),some (.bytes pc),some (.bool b),t],H1⟩ (retK Q) E) :
  vSs T (callN T d) b_law_take_1_0 ⟨[some (.ref s.b),some (.ref s.cl),some (.int (s.lim:Int)),some (.int (r:Int)),some (.int (o:Int)),some (.bytes pc),some (.bool false),none],H⟩ (onNext (fun st=>vSs T (callN T d) b_law_take_0_2 st (retK Q) E) (retK Q)) E:=by
 have hoc:=S.tb.ho r hr
 generalize z.c r=c at *
 refine Nt.mk (a:=.int (min _ _)) _ (congrArg AV.int (imin s.lim pc.length)) ⟨Nat.le_trans (Nat.min_le_left _ _) (Nat.le_trans S.bx.l1 (by decide)),?_⟩
 refine forN (fun j (a:LtA)=>⟨[some (.ref s.b),some (.ref s.cl),some (.int (s.lim:Int)),some (.int (r:Int)),some (.int (o:Int)),some (.bytes pc),some (.bool a.new),a.t],a.H⟩) (LtI c o (z.l r) pc H) ⟨false,none,H⟩ ⟨.refl,by rw [List.take_zero,fill_zero];exact hoc,⟨(fun h=>nomatch h),fun ⟨_,h1,h2,_⟩=>absurd h1 (Nat.not_le.mpr h2)⟩⟩ (fun j a hj J=>?_) fun a J=>?_
 ·have jp:=Nat.lt_of_lt_of_le hj (Nat.min_le_right _ _)
  have hol:=Nat.lt_of_lt_of_le (Nat.add_lt_add_left jp o) ho
  have hx:pc[j]?=some pc[j]:=List.getElem?_eq_getElem jp
  generalize pc[j]=x at hx
  have hl:o + j < (fill c o (pc.take j)).length:=fillLen.symm▸hol
  have hcl:=J.u.get S.tb.hc fun q=>S.lc r hr (List.mem_singleton.mp q).symm
  refine Lst.mk _ hcl (At.mk _ (rng_at hr) (Lst.mk _ J.ho (At.mk _ (lst_at hl) ?_)))
  rw [fill_here hol]
  cases e:cat c (o + j) with
  | some y=>exact Fxt.mk ⟨a.new,some (.int (j:Int)),a.H⟩ rfl ⟨J.u,fill_skip e▸J.ho,new_skip e J.n⟩
  | none =>
   refine At.mk _ hx (Lst.mk _ hcl (At.mk _ (rng_at hr) (Lst.mk _ J.ho ⟨lst_len.symm▸hl,Fxt.mk ⟨true,some (.int (j:Int)),_⟩ rfl ⟨J.u.trans (.set (.head _)),?_,⟨fun _=>⟨o + j,Nat.le_add_right _ _,Nat.lt_succ_self _,e⟩,fun _=>rfl⟩⟩⟩)))
   rw [<-fill_succ hol e hx,lst,List.map_set,List.map_set]
   exact getSet J.ho
 ·have oo:=J.ho
  have n:=J.n
  rw [take_min] at oo
  rw [Nat.min_def,<-Nat.min_def,<-List.length_take] at n
  exact hQ _ _ _ J.u oo n
theorem ltake_yes {s:SC} {z:Sst} {r o:Nat} {pc:List UInt8} (S:Side s z H) (hr:r < s.k.n) (ho:o + pc.length<=(z.c r).length)
  (hQ:∀ H' h',Side s (at1 z r h' (fill (z.c r) o (pc.take s.lim))) H'->Go s z (at1 z r h' (fill (z.c r) o (pc.take s.lim))) H H'->Q (.bool true) H') :
  callN T (d + 3) 0 i_law_take [.ref s.b,.ref s.cl,.int (s.lim:Int),.int (r:Int),.int (o:Int),.bytes pc] H Q E:=by
 refine enter fd_law_take rfl rfl (Lst.mk _ S.tb.hc (ifT (by rw [len_refs];exact Int.ofNat_lt.mpr hr) (Lst.mk _ S.tb.hc (At.mk _ (rng_at hr) (Lst.mk _ (S.tb.ho r hr) (ifT (by rw [lst_len];exact Int.ofNat_le.mpr ho) ?_))))))
 refine ltake_loop S hr ho fun H1 b t u oo n=>?_
 have B1:=S.bx.upd u (fun x h=>List.mem_singleton.mp h▸⟨S.Nl r hr,S.lh r hr⟩) (fun q=>nomatch (List.mem_singleton.mp q▸S.bx.hb).symm.trans (S.tb.ho r hr)) fun q hq h=>S.nl q hq r hr (List.mem_singleton.mp h)
 refine mth B1.hb rfl (take_yes B1 hr ho fun H2 h' b' K n'=>?_)
 obtain ⟨S2,g⟩:=S.took hr u oo B1 K fillLen
 have e:=eqb n' n
 have q:Q (.bool (decide (b'=b))) H2:=by
  rw [decide_eq_true e]
  exact hQ H2 h' S2 g
 exact q
theorem ltake_no {s:SC} {z:Sst} {r o:Int} {pc:List UInt8} (S:Side s z H) (hno:r < 0\/(s.k.n:Int)<=r\/o < 0\/∃ i:Nat,r=i/\i < s.k.n/\((z.c i).length:Int) < o + pc.length) (hQ:Q (.bool true) H) :
  callN T (d + 3) 0 i_law_take [.ref s.b,.ref s.cl,.int (s.lim:Int),.int r,.int o,.bytes pc] H Q E:=by
 have fin:∀ {t:Option AV},vSs T (callN T (d + 2)) b_law_take_0_2 ⟨[some (.ref s.b),some (.ref s.cl),some (.int (s.lim:Int)),some (.int r),some (.int o),some (.bytes pc),some (.bool false),t],H⟩ (retK Q) fun c st=>st.on fun _ H=>E c H :=
  fun {t}=>mth S.bx.hb rfl (take_no S.bx hno hQ)
 refine enter fd_law_take rfl rfl ?_
 rcases Decidable.em (0<=r) with c1|c1
 ·refine ifT c1 (Lst.mk _ S.tb.hc ?_)
  rcases Decidable.em (r < (((List.range s.k.n).map fun r=>AV.ref (z.l r)).length:Int)) with c2|c2
  ·refine ifT c2 ?_
   rw [len_refs] at c2
   rcases Decidable.em (0<=o) with c3|c3
   ·obtain ⟨i,rfl,hi,hl⟩:=hno.elim (absurd c1 ∘ Int.not_le.mpr) (Or.elim · (absurd c2 ∘ Int.not_lt.mpr) (Or.elim · (absurd c3 ∘ Int.not_le.mpr) id))
    exact ifT c3 (Lst.mk _ S.tb.hc (At.mk _ (rng_at hi) (Lst.mk _ (S.tb.ho i hi) (ifF (by rw [lst_len];exact Int.not_le.mpr hl) fin))))
   ·exact ifF c3 (ifF c3 fin)
  ·exact ifF c2 (ifF c2 fin)
 ·exact ifF c1 (ifF c1 fin)
end
end Ab
end
section
namespace Ab
open PySem
theorem hole_some:∀ {c:Cell} {i:Nat},i < holeF c->(cat c i).isSome=true
 | some x::c,0,_=>rfl
 | some x::c,i+1,h=>hole_some (c:=c) (Nat.lt_of_succ_lt_succ h)
theorem full_of {c:Cell} (h:∀ i,i < c.length->(cat c i).isSome=true):¬ holeF c < c.length:=fun g=>by
 have e:=(idx_ci g).1
 rw [List.getElem?_map,at_cat g] at e
 have k:=h _ g
 cases q:cat c (holeF c) with
 | none=>rw [q] at k;cases k
 | some x=>rw [q] at e;exact absurd (Option.some.inj e) fun q=>nomatch q
section
variable {c:Cell} {o a e k:Nat} {b pc:List UInt8}
theorem full_some (h:¬ holeF c < c.length) {i:Nat} (hi:i < c.length):(cat c i).isSome=true:=hole_some (Nat.lt_of_lt_of_le hi (Nat.not_lt.mp h))
theorem fill_keep {i:Nat} (h:(cat c i).isSome=true):cat (fill c o pc) i=cat c i:=by
 obtain ⟨x,e⟩:=Option.isSome_iff_exists.mp h
 rw [fill_some e,e]
theorem fill_id (h:¬ holeF c < c.length):fill c o pc=c:=cell_ext fillLen fun _ hi=>fill_keep (full_some h hi)
theorem fill_fill (he:e<=b.length):fill (fill c a ((cutL b a e).take k)) 0 b=fill c 0 b:=cell_ext (by rw [fillLen,fillLen,fillLen]) fun i hi=>by
 rw [fillLen] at hi
 cases q:cat c i with
 | some x=>rw [fill_some q,fill_some (fill_some q)]
 | none =>
  rw [fill_at (by rw [fillLen];exact hi),fill_at hi,fill_at hi,q]
  have z:∀ y:Option UInt8,(none:Option UInt8).or y=y:=fun _=>rfl
  rw [z,z]
  rcases Nat.lt_or_ge i a with g|g
  ·rw [if_neg (Nat.not_le.mpr g)];rfl
  ·rw [if_pos g,if_pos (Nat.zero_le _),Nat.sub_zero,List.getElem?_take]
   rcases Nat.lt_or_ge (i - a) k with l|l
   ·rw [if_pos l]
    cases w:(cutL b a e)[i - a]? with
    | none=>rfl
    | some y =>
     have:=(cut_at b w).2
     rw [Nat.add_sub_cancel' g] at this
     rw [this];rfl
   ·rw [if_neg (Nat.not_lt.mpr l)];rfl
theorem fill_first (h:cat c a=none) (h1:a < e) (h2:e<=b.length) (hl:b.length=c.length) (k0:0 < k):(cat (fill c a ((cutL b a e).take k)) a).isSome=true:=by
 rw [fill_new (Nat.lt_of_lt_of_le h1 (hl▸h2)) h (Nat.le_refl _),Nat.sub_self,List.getElem?_take,if_pos k0]
 exact Option.isSome_iff_exists.mpr ⟨_,List.getElem?_eq_getElem ((cutLen h2).symm▸Nat.sub_pos_of_lt h1)⟩
end
theorem miss_at {c:Nat->Cell} {n r:Nat} (hr:r < n) (hf:∀ q,q < r->¬ holeF (c q) < (c q).length) (hh:holeF (c r) < (c r).length):missF c n 0=some (r,holeF (c r)):=by
 have key:∀ q,q<=r->missF c n 0=missF c (n - q) q:=fun q=>by
  induction q with
  | zero=>exact fun _=>rfl
  | succ q ih=>exact fun h=>(ih (Nat.le_of_succ_le h)).trans (miss_f (Nat.lt_of_lt_of_le h (Nat.le_of_lt hr)) (hf q h))
 exact (key r (Nat.le_refl _)).trans (miss_t hr hh)
theorem up_up {α:Type} {f:Nat->α} {r:Nat} {v w:α}:up (up f r v) r w=up f r w:=funext fun x=>by
 rcases Decidable.em (x=r) with h|h
 ·rw [h,up_at,up_at]
 ·rw [up_ne h,up_ne h,up_ne h]
theorem at1_at1 {z:Sst} {r h h':Nat} {c c':Cell}:at1 (at1 z r h c) r h' c'=at1 z r h' c':=by rw [at1,up_up,up_up]
theorem at1_id {z:Sst} {r:Nat}:at1 z r (z.h r) (z.c r)=z:=by rw [at1,up_id,up_id]
section
variable {d:Nat} {H:AH} {Q:AV->AH->Prop} {E:Nat->AH->Prop}
theorem eq_gap {r a:Nat} {gap:Option (Nat×Nat)} {k:Bool->Prop} (h:∀ b,(gap=none->b=false)->k b):eqP H (.tup [.int (r:Int),.int (a:Int)]) (mval gap) k:=by
 cases gap with
 | none=>exact .tupNone _ rfl rfl (h _ fun _=>rfl)
 | some p=>exact .pairs _ _ _ _ rfl rfl (h _ fun q=>nomatch q)
structure FiA where
 a:Nat
 h:Nat
 c:Cell
 t:Option AV
 H:AH
structure FiI (s:SC) (z:Sst) (r:Nat) (b:List UInt8) (gap:Option (Nat×Nat)) (H:AH) (a:FiA):Prop where
 S:Side s (at1 z r a.h a.c) a.H
 g:Go s z (at1 z r a.h a.c) H a.H
 le:a.a<=b.length
 l:b.length=a.c.length
 f:gap=none->fill a.c 0 b=fill (z.c r) 0 b/\∀ i,i < a.a->(cat a.c i).isSome=true
noncomputable def fiM (b:List UInt8) (a:FiA):Nat:=2 * (b.length - a.a) + (cat a.c a.a).elim 1 fun _=>0
theorem fiM_on {b:List UInt8} {a:FiA} {t:Option AV} {G:AH} {h:Nat} (g:a.a < b.length):fiM b ⟨a.a+1,h,a.c,t,G⟩ < fiM b a:=by
 have:∀ o:Option UInt8,o.elim 1 (fun _=>0) < 2:=fun|none=>Nat.lt_succ_self 1|some _=>Nat.succ_pos 1
 have e:2 * (b.length - a.a)=2 * (b.length - (a.a+1)) + 2:=by rw [<-Nat.mul_succ,<-Nat.succ_sub g,Nat.succ_sub_succ]
 exact Nat.lt_of_lt_of_le (Nat.add_lt_add_left (this _) _) (Nat.le_trans (Nat.le_of_eq e.symm) (Nat.le_add_right _ _))
theorem fiM_in {b:List UInt8} {a:FiA} {t:Option AV} {G:AH} {h:Nat} {c:Cell} (g:cat a.c a.a=none) (g2:(cat c a.a).isSome=true):fiM b ⟨a.a,h,c,t,G⟩ < fiM b a:=by
 obtain ⟨x,e⟩:=Option.isSome_iff_exists.mp g2
 unfold fiM
 rw [g,e]
 exact Nat.lt_succ_self _
theorem FiI.on {s:SC} {z:Sst} {r:Nat} {b:List UInt8} {gap:Option (Nat×Nat)} {a:FiA} (I:FiI s z r b gap H a) (g:a.a < b.length) (h:gap=none->(cat a.c a.a).isSome=true) {t:Option AV}:FiI s z r b gap H ⟨a.a+1,a.h,a.c,t,a.H⟩ :=
 ⟨I.S,I.g,g,I.l,fun e=>⟨(I.f e).1,fun i hi=>upto (P:=fun i=>(cat a.c i).isSome=true) (h e) hi ((I.f e).2 i)⟩⟩
theorem fill_give {s:SC} {z:Sst} {r e:Nat} {b:List UInt8} {gap:Option (Nat×Nat)} {a:FiA} {t3 t4 t5 t6:Option AV} {Q:Fl->St->Prop} {E:KX} (I:FiI s z r b gap H a) (hr:r < s.k.n) (hn:cat a.c a.a=none) (h1:a.a < e) (h2:e<=b.length)
  (hQ:∀ h' c' H',FiI s z r b gap H ⟨a.a,h',c',some (.int (e:Int)),H'⟩->fiM b ⟨a.a,h',c',some (.int (e:Int)),H'⟩ < fiM b a →
   Q .next ⟨[some (.ref s.b),some (.ref s.cl),some (.int (s.lim:Int)),t3,t4,t5,t6,some (.int (r:Int)),some (.bytes b),some (.int (a.a:Int)),some (.int (e:Int))],H'⟩) :
  vSs T (callN T (d + 3)) b_law_fill_5_3 ⟨[some (.ref s.b),some (.ref s.cl),some (.int (s.lim:Int)),t3,t4,t5,t6,some (.int (r:Int)),some (.bytes b),some (.int (a.a:Int)),some (.int (e:Int))],a.H⟩ Q E:=by
 have hl:b.length<=200:=by
  have:=I.S.tb.le r hr
  rw [show (at1 z r a.h a.c).c r=a.c from up_at,<-I.l] at this
  exact this
 have big:∀ {k},k<=b.length->k < 1152921504606846976:=fun h=>Nat.lt_of_le_of_lt (Nat.le_trans h hl) (by decide)
 have ec:(at1 z r a.h a.c).c r=a.c:=up_at
 refine ⟨rfl,big I.le,big h2,ltake_yes I.S hr (by rw [ec,cutLen h2,Nat.add_sub_cancel' (Nat.le_of_lt h1),<-I.l];exact h2) fun H' h' S' g'=>?_⟩
 rw [ec,at1_at1] at S' g'
 have f1:=fill_first (k:=s.lim) hn h1 h2 I.l S'.bx.l0
 exact hQ h' _ H' ⟨S',I.g.trans g',I.le,I.l.trans fillLen.symm,fun q=>⟨(fill_fill h2).trans (I.f q).1,fun i hi=>by
  have:=(I.f q).2 i hi
  exact (congrArg Option.isSome (fill_keep this)).trans this⟩⟩ (fiM_in hn f1)
end
end Ab
end
section
namespace Ab
open PySem
section
variable {d:Nat} {H:AH}
theorem eq_some {o:Option (Nat×Nat)} {x y:Nat} {k:Bool->Prop} (e:o=some (x,y)) (h:k true):eqP H (mval o) (.tup [.int (x:Int),.int (y:Int)]) k:=by
 subst e
 exact .same (same_tup (same_cons rfl (same_cons rfl same_nil))) h
theorem fill_run {s:SC} {z:Sst} {r:Nat} {b:List UInt8} {gap:Option (Nat×Nat)} {t3 t4 t6 t9 t10:Option AV} {Q:Fl->St->Prop} {E:KX} (S:Side s z H) (hr:r < s.k.n) (hb:b.length=(z.c r).length)
  (hg:∀ p,gap=some (r,p)->p<=b.length) (hf:gap=none->∀ q,q < r->¬ holeF (z.c q) < (z.c q).length)
  (hQ:∀ h' c' H' t9 t10,Side s (at1 z r h' c') H'->Go s z (at1 z r h' c') H H'->(gap=none->¬ holeF c' < c'.length/\c'=fill (z.c r) 0 b) →
   Q .next ⟨[some (.ref s.b),some (.ref s.cl),some (.int (s.lim:Int)),t3,t4,some (mval gap),t6,some (.int (r:Int)),some (.bytes b),t9,t10],H'⟩) :
  vSs T (callN T (d + 3)) b_law_fill_1_2 ⟨[some (.ref s.b),some (.ref s.cl),some (.int (s.lim:Int)),t3,t4,some (mval gap),t6,some (.int (r:Int)),some (.bytes b),t9,t10],H⟩ Q E:=by
 refine whl (fiM b) (fun a:FiA=>⟨[some (.ref s.b),some (.ref s.cl),some (.int (s.lim:Int)),t3,t4,some (mval gap),t6,some (.int (r:Int)),some (.bytes b),some (.int (a.a:Int)),a.t],a.H⟩) (FiI s z r b gap H) ⟨0,z.h r,z.c r,t10,H⟩ ⟨at1_id.symm▸S,at1_id.symm▸.nil .refl,Nat.zero_le _,hb,fun _=>⟨rfl,fun i h=>absurd h (Nat.not_lt_zero _)⟩⟩ fun a I=>?_
 have ec:(at1 z r a.h a.c).c r=a.c:=up_at
 rcases Nat.lt_or_ge a.a b.length with g|g
 ·have gc:a.a < ((at1 z r a.h a.c).c r).length:=ec.symm▸I.l▸g
  refine ifT (Int.ofNat_lt.mpr g) (eq_gap fun bb hbb=>?_)
  cases bb with
  | true=>exact Nxt.mk ⟨a.a+1,a.h,a.c,a.t,a.H⟩ rfl (fiM_on g) (I.on g fun q=>nomatch hbb q)
  | false =>
   refine Lst.mk _ I.S.tb.hc (At.mk _ (rng_at hr) (Lst.mk _ (I.S.tb.ho r hr) (At.mk _ (lst_at gc) ?_)))
   rw [ec]
   cases e:cat a.c a.a with
   | some x=>exact Nxt.mk ⟨a.a+1,a.h,a.c,a.t,a.H⟩ rfl (fiM_on g) (I.on g fun _=>e▸rfl)
   | none =>
    cases gap with
    | none =>
     have eh:holeF ((at1 z r a.h a.c).c r)=a.a:=ec.symm▸holeF_of (I.f rfl).2 (Nat.le_of_lt (I.l▸g)) fun _=>e
     have em:=miss_at (c:=(at1 z r a.h a.c).c) hr (fun q hq=>by rw [show (at1 z r a.h a.c).c q=z.c q from up_ne (Nat.ne_of_lt hq)];exact hf rfl q hq) (eh.symm▸gc)
     rw [eh] at em
     have ew:(missF (at1 z r a.h a.c).c s.k.n 0).isNone=false:=by rw [em];rfl
     refine ⟨rfl,mth I.S.bx.hb rfl (missing_spec I.S.bx (eq_some em ?_))⟩
     refine mth I.S.bx.hb rfl (whole_spec I.S.bx (ifX ew ⟨rfl,?_⟩))
     exact fill_give I hr e g (Nat.le_refl _) fun h' c' H' I' m'=>Nxt.mk ⟨_,_,_,_,_⟩ rfl m' I'
    | some p =>
     refine ⟨rfl,rfl,At.mk _ rfl ?_⟩
     rcases Decidable.em (p.1=r) with q1|q1
     ·refine ifT (Int.ofNat_inj.mpr q1) (At.mk _ rfl ?_)
      rcases Nat.lt_or_ge a.a p.2 with q2|q2
      ·refine ifT (Int.ofNat_lt.mpr q2) (At.mk _ rfl ?_)
       exact fill_give I hr e q2 (hg p.2 (congrArg (fun x=>some (x,p.2)) q1)) fun h' c' H' I' m'=>Nxt.mk ⟨_,_,_,_,_⟩ rfl m' I'
      ·refine ifF (Int.not_lt.mpr (Int.ofNat_le.mpr q2)) ?_
       exact fill_give I hr e g (Nat.le_refl _) fun h' c' H' I' m'=>Nxt.mk ⟨_,_,_,_,_⟩ rfl m' I'
     ·refine ifF (fun h=>q1 (Int.ofNat_inj.mp h)) (ifF (fun h=>q1 (Int.ofNat_inj.mp h)) ?_)
      exact fill_give I hr e g (Nat.le_refl _) fun h' c' H' I' m'=>Nxt.mk ⟨_,_,_,_,_⟩ rfl m' I'
 ·refine ifF (Int.not_lt.mpr (Int.ofNat_le.mpr g)) (hQ _ _ _ _ _ I.S I.g fun q=>?_)
  have fl:=full_of fun i hi=>(I.f q).2 i (Nat.lt_of_lt_of_le hi (I.l▸g))
  exact ⟨fl,(fill_id fl).symm.trans (I.f q).1⟩
end
end Ab
end
section
namespace Ab
open PySem
structure Cont (s:SC) (z:Sst) (co:Nat) (ct:Nat->List UInt8) (H:AH):Prop where
 at':H[co]?=some (.list ((List.range s.k.n).map fun r=>.bytes (ct r)))
 off:¬ Foot s z co
 sz:∀ r,r < s.k.n->(ct r).length=(z.c r).length
 n:s.k.n<=10
section
variable {s:SC} {z z':Sst} {H H':AH} {co:Nat} {ct:Nat->List UInt8}
theorem Go.off (g:Go s z z' H H') {x:Nat} {o:AObj} (e:H[x]?=some o) (h:¬ Foot s z x):¬ Foot s z' x:=fun q=>(g.foot q).elim h fun l=>Nat.not_lt.mpr l (ltOf e)
theorem Side.len (S:Side s z H) (S':Side s z' H') {r:Nat} (hr:r < s.k.n):(z.c r).length=(z'.c r).length:=(S.bx.sz r hr).symm.trans (S'.bx.sz r hr)
theorem Cont.go (C:Cont s z co ct H) (S:Side s z H) (S':Side s z' H') (g:Go s z z' H H'):Cont s z' co ct H':=⟨g.u.at' _ _ C.off C.at',g.off C.at' C.off,fun r hr=>(C.sz r hr).trans (S.len S' hr),C.n⟩
end
structure FoA where
 z:Sst
 t7:Option AV
 t8:Option AV
 t9:Option AV
 t10:Option AV
 H:AH
structure FoI (s:SC) (z:Sst) (ct:Nat->List UInt8) (gap:Option (Nat×Nat)) (fa:Nat) (H:AH) (j:Nat) (a:FoA):Prop where
 S:Side s a.z a.H
 g:Go s z a.z H a.H
 rest:∀ q,j<=q->a.z.c q=z.c q
 full:gap=none->∀ q,q < j->¬ holeF (a.z.c q) < (a.z.c q).length
 val:gap=none->fa=0->∀ q,q < j->a.z.c q=fill (z.c q) 0 (ct q)
theorem FoI.next {s:SC} {z:Sst} {ct:Nat->List UInt8} {gap:Option (Nat×Nat)} {fa j h':Nat} {H H':AH} {a:FoA} {c':Cell} {b:List UInt8} {t7 t8 t9 t10:Option AV} (I:FoI s z ct gap fa H j a) (S:Side s (at1 a.z j h' c') H') (g:Go s a.z (at1 a.z j h' c') a.H H')
  (hb:fa=0->b=ct j) (h:gap=none->¬ holeF c' < c'.length/\c'=fill (a.z.c j) 0 b):FoI s z ct gap fa H (j+1) ⟨at1 a.z j h' c',t7,t8,t9,t10,H'⟩:=by
 refine ⟨S,I.g.trans g,fun q hq=>?_,fun e q hq=>?_,fun e f q hq=>?_⟩
 ·exact (up_ne (Nat.ne_of_gt hq)).trans (I.rest q (Nat.le_of_succ_le hq))
 ·refine upto (P:=fun q=>¬ holeF (up a.z.c j c' q) < (up a.z.c j c' q).length) ?_ hq fun k=>?_
  ·rw [up_at]
   exact (h e).1
  ·rw [up_ne (Nat.ne_of_lt k)]
   exact I.full e q k
 ·refine upto (P:=fun q=>up a.z.c j c' q=fill (z.c q) 0 (ct q)) ?_ hq fun k=>?_
  ·rw [up_at,(h e).2,hb f,I.rest j (Nat.le_refl _)]
  ·rw [up_ne (Nat.ne_of_lt k)]
   exact I.val e f q k
section
variable {d:Nat} {H:AH} {Q:AV->AH->Prop} {E:Nat->AH->Prop}
theorem spoil_by {z:Nat}:(1 + z % 255) % 256≠0:=by
 rw [Nat.mod_eq_of_lt (Nat.add_lt_add_left (Nat.mod_lt z (by decide)) 1)]
 exact Nat.ne_of_gt (Nat.lt_of_lt_of_le Nat.one_pos (Nat.le_add_right _ _))
theorem fill_spec {s:SC} {z:Sst} {co fa zz:Nat} {ct:Nat->List UInt8} {gap:Option (Nat×Nat)} (S:Side s z H) (C:Cont s z co ct H) (hg:∀ r p,gap=some (r,p)->p<=(z.c r).length)
  (hQ:∀ H' z',Side s z' H'->Go s z z' H H'->(gap=none->∀ q,q < s.k.n->¬ holeF (z'.c q) < (z'.c q).length)->(gap=none->fa=0->∀ q,q < s.k.n->z'.c q=fill (z.c q) 0 (ct q))->Q (.bool true) H') :
  callN T (d + 4) 0 i_law_fill [.ref s.b,.ref s.cl,.int (s.lim:Int),.ref co,.int (fa:Int),mval gap,.int (zz:Int)] H Q E:=by
 refine enter fd_law_fill rfl rfl (Lst.mk _ S.tb.hc ?_)
 rw [len_refs]
 refine ⟨S.bx.nl,forN (fun j (a:FoA)=>⟨[some (.ref s.b),some (.ref s.cl),some (.int (s.lim:Int)),some (.ref co),some (.int (fa:Int)),some (mval gap),some (.int (zz:Int)),a.t7,a.t8,a.t9,a.t10],a.H⟩) (FoI s z ct gap fa H) ⟨z,none,none,none,none,H⟩ ⟨S,.nil .refl,fun _ _=>rfl,fun _ _ h=>absurd h (Nat.not_lt_zero _),fun _ _ _ h=>absurd h (Nat.not_lt_zero _)⟩ (fun j a hj I=>?_) fun a I=>hQ _ _ I.S I.g I.full I.val⟩
 have Ca:=C.go S I.S I.g
 have hl:(ct j).length<=200:=(Ca.sz j hj).symm▸I.S.tb.le j hj
 have go:∀ {b:List UInt8} {H1:AH},Upd [] a.H H1->b.length=(ct j).length->(fa=0->b=ct j)->vSs T (callN T (d + 3)) b_law_fill_1_2 ⟨[some (.ref s.b),some (.ref s.cl),some (.int (s.lim:Int)),some (.ref co),some (.int (fa:Int)),some (mval gap),some (.int (zz:Int)),some (.int (j:Int)),some (.bytes b),a.t9,a.t10],H1⟩
   (onNext (Fxt (fun j (a:FoA)=>⟨[some (.ref s.b),some (.ref s.cl),some (.int (s.lim:Int)),some (.ref co),some (.int (fa:Int)),some (mval gap),some (.int (zz:Int)),a.t7,a.t8,a.t9,a.t10],a.H⟩) (FoI s z ct gap fa H) (j+1)) (onNext (fun st=>vSs T (callN T (d + 3)) b_law_fill_0_1 st (retK Q) fun c st=>st.on fun _ H=>E c H) (retK Q))) fun c st=>st.on fun _ H=>E c H:=fun u lb hb =>
  fill_run (I.S.upd0 u) hj (lb.trans (Ca.sz j hj)) (fun p e=>lb▸(Ca.sz j hj).symm▸S.len I.S hj▸hg j p e) I.full fun h' c' H' t9 t10 S' g' f=>Fxt.mk ⟨_,_,_,_,_,_⟩ rfl (I.next S' ((Go.nil u).trans g') hb f)
 have p2:(2:Int) ^ j=((2 ^ j:Nat):Int):=(Int.natCast_pow 2 j).symm
 have p0:0 < 2 ^ j:=Nat.two_pow_pos j
 have p1:2 ^ j < 18446744073709551616:=Nat.lt_of_le_of_lt (Nat.pow_le_pow_right (by decide) (Nat.le_trans (Nat.le_of_lt hj) C.n)) (by decide:2 ^ 10 < _)
 refine Lst.mk _ Ca.at' (At.mk _ (rng_at hj) ⟨⟨by decide,by decide,Nat.le_trans (Nat.le_of_lt hj) (Nat.le_trans C.n (by decide))⟩,⟨by rw [p2];exact Int.ofNat_lt.mpr p0,by rw [p2];exact Int.ofNat_lt.mpr p1⟩,by decide,?_⟩)
 rw [p2]
 rcases Decidable.em ((fa:Int) / ((2 ^ j:Nat):Int) % 2=1) with c1|c1
 ·refine ifT c1 ?_
  rcases Nat.lt_or_ge 0 (ct j).length with c2|c2
  ·refine ifT (Int.ofNat_lt.mpr c2) ⟨rfl,Int.ofNat_lt.mpr c2,⟨by decide,by decide⟩,by decide,?_⟩
   exact spoil_spec (p:=zz % (ct j).length) (y:=1 + zz / 32 % 255) (Nat.mod_lt _ c2) hl fun b' H1 lb _ u=>go u lb fun e=>absurd c1 (by rw [e,Int.natCast_zero,Int.zero_ediv];decide)
  ·exact ifF (Int.not_lt.mpr (Int.ofNat_le.mpr c2)) (go .refl rfl fun _=>rfl)
 ·exact ifF c1 (ifF c1 (go .refl rfl fun _=>rfl))
end
end Ab
end
section
namespace Ab
open PySem
structure Chk (s:SC) (z:Sst) (ch:Nat) (H:AH):Prop where
 at':H[ch]?=some (.list ((List.range s.k.n).map fun r=>.int ((s.k.p r).2.check:Int)))
 off:¬ Foot s z ch
theorem Chk.go {s:SC} {z z':Sst} {H H':AH} {ch:Nat} (C:Chk s z ch H) (g:Go s z z' H H'):Chk s z' ch H':=⟨g.u.at' _ _ C.off C.at',g.off C.at' C.off⟩
theorem gd_full {s:SC} {z:Sst} {r:Nat} (h:¬ holeF (z.c r) < (z.c r).length) (sz:(s.k.p r).2.size=(z.c r).length):gd s z r=decide ((chk (octs (z.c r)):Int)=((s.k.p r).2.check:Int)):=by
 have l:=congrArg List.length (full_map h)
 rw [List.length_map] at l
 exact decide_eq_decide.mpr ⟨fun q=>Int.ofNat_inj.mpr q.2,fun q=>⟨l.trans sz.symm,Int.ofNat_inj.mp q⟩⟩
section
variable {d:Nat} {H:AH} {Q:Fl->St->Prop} {E:KX}
theorem broken_spec {s:SC} {z:Sst} {ch:Nat} {t0 t3 t4 t5 t6 t7 t8 t9 t10:Option AV} (B:Tbl s z H) (sz:∀ r,r < s.k.n->(s.k.p r).2.size=(z.c r).length) (hf:∀ r,r < s.k.n->¬ holeF (z.c r) < (z.c r).length)
  (hch:H[ch]?=some (.list ((List.range s.k.n).map fun r=>.int ((s.k.p r).2.check:Int))))
  (hQ:∀ H',Upd [] H H'->H'[H.length]?=some (.list ((bads s z s.k.n).map fun r:Nat=>.int (r:Int)))->vSs T (callN T (d+1)) b_law_asked_0_3 ⟨[t0,some (.ref s.cl),some (.ref ch),t3,t4,t5,some (.ref H.length),t7,t8,t9,t10],H'⟩ Q E) :
  vSs T (callN T (d+1)) b_law_asked_0_2 ⟨[t0,some (.ref s.cl),some (.ref ch),t3,t4,t5,t6,t7,t8,t9,t10],H⟩ Q E:=by
 refine Lst.mk _ B.hc ?_
 rw [len_refs]
 refine ⟨Nat.le_trans B.nl (by decide),forN (fun j (a:Option AV×AH)=>⟨[a.1,some (.ref s.cl),some (.ref ch)],a.2⟩) (fun j a=>RowsI H ((bads s z j).map fun r:Nat=>AV.int (r:Int)) a) (none,H++[AObj.list []]) ⟨.app,getLast'⟩ (fun j a hj J=>?_) fun a J=>?_⟩
 case refine_2=>exact hQ _ J.u J.o
 refine ⟨rfl,Lst.mk _ (J.u.get0 B.hc) (At.mk _ (rng_at hj) (sum_l (J.u.get0 (B.ho j hj)) (hf j hj) (B.le j hj) (Lst.mk _ (J.u.get0 hch) (At.mk _ (rng_at hj) ?_))))⟩
 have e:=gd_full (hf j hj) (sz j hj)
 cases g:gd s z j with
 | true=>exact niT' (e.symm.trans g) (Fxt.mk (_,_) rfl ⟨J.u,bads_t g▸J.o⟩)
 | false=>exact niF' (e.symm.trans g) (Lst.mk _ J.o ⟨Nat.lt_of_le_of_lt (Nat.le_trans (Nat.le_of_eq (List.length_map _)) (Nat.le_trans bads_len (Nat.le_trans (Nat.le_of_lt hj) B.nl))) (by decide),Fxt.mk (_,_) rfl (J.push .refl (by rw [bads_f g,List.map_append];rfl))⟩)
end
structure WpA where
 l:Nat->Nat
 c:Nat->Cell
 t:Option AV
 H:AH
structure WpI (s:SC) (z:Sst) (bk:List Nat) (H:AH) (j:Nat) (a:WpA):Prop where
 u:Upd [s.cl] H a.H
 hc:a.H[s.cl]?=some (refs s.k.n a.l)
 ho:∀ r,r < s.k.n->a.H[a.l r]?=some (lst (a.c r))
 nl:∀ r,r < s.k.n->a.l r=z.l r\/H.length<=a.l r
 li:∀ r,r < s.k.n->∀ q,q < s.k.n->a.l r=a.l q->r=q
 cl:∀ r,(a.c r).length=(z.c r).length
 cc:∀ r,(r∈bk.take j->a.c r=List.replicate (z.c r).length none)/\(r∉bk.take j->a.c r=z.c r)
theorem WpI.next {s:SC} {z:Sst} {bk:List Nat} {H:AH} {j r:Nat} {a:WpA} {t:Option AV} (B:Tbl s z H) (lc:∀ r,r < s.k.n->z.l r≠s.cl) (I:WpI s z bk H j a) (e:bk[j]?=some r) (hr:r < s.k.n) {o:AObj}:WpI s z bk H (j+1) ⟨up a.l r (a.H++[o]).length,up a.c r (List.replicate (z.c r).length none),t,(a.H++[o]++[lst (List.replicate (z.c r).length none)]).set s.cl (refs s.k.n (up a.l r (a.H++[o]).length))⟩:=by
 have u2:Upd [] a.H (a.H++[o]++[lst (List.replicate (z.c r).length none)]):=.trans .app .app
 have lt:=fun {x:Nat} {o':AObj} (e:a.H[x]?=some o')=>Nat.ne_of_lt (Nat.lt_of_lt_of_le (ltOf e) (Upd.app (S:=[]) (G:=[o])).le)
 have nc:∀ q,q < s.k.n->a.l q≠s.cl:=fun q hq=>(I.nl q hq).elim (fun e=>e▸lc q hq) fun g=>Nat.ne_of_gt (Nat.lt_of_lt_of_le (ltOf B.hc) g)
 have tk:bk.take (j+1)=bk.take j++[r]:=by rw [List.take_add_one,e];rfl
 refine ⟨(I.u.trans u2.nil).trans (.set (.head _)),getSet (u2.get0 I.hc),fun q hq=>?_,fun q hq=>?_,fun q hq p hp h=>?_,fun q=>?_,fun q=>?_⟩
 ·rcases Decidable.em (q=r) with rfl|g
  ·exact idx up_at ((getNe (lt I.hc).symm (gLast _ _)).trans (congrArg (fun c=>some (lst c)) up_at.symm))
  ·exact idx (up_ne g) ((getNe (nc q hq) (u2.get0 (I.ho q hq))).trans (congrArg (fun c=>some (lst c)) (up_ne g).symm))
 ·rcases Decidable.em (q=r) with rfl|g
  ·exact .inr (Nat.le_trans I.u.le (Nat.le_trans (Upd.app (S:=[]) (G:=[o])).le (Nat.le_of_eq up_at.symm)))
  ·exact (I.nl q hq).imp (up_ne g).trans fun l=>Nat.le_trans l (Nat.le_of_eq (up_ne g).symm)
 ·rcases Decidable.em (q=r) with rfl|g
  ·rcases Decidable.em (p=q) with k|k
   ·exact k.symm
   ·exact absurd ((up_at.symm.trans h).trans (up_ne k)).symm (lt (I.ho p hp))
  ·rcases Decidable.em (p=r) with rfl|k
   ·exact absurd ((up_ne g).symm.trans (h.trans up_at)) (lt (I.ho q hq))
   ·exact I.li q hq p hp ((up_ne g).symm.trans (h.trans (up_ne k)))
 ·rcases Decidable.em (q=r) with rfl|g
  ·exact (congrArg List.length up_at).trans List.length_replicate
  ·exact (congrArg List.length (up_ne g)).trans (I.cl q)
 ·rw [tk]
  rcases Decidable.em (q=r) with rfl|g
  ·exact ⟨fun _=>up_at,fun h=>absurd (List.mem_append_right _ (.head _)) h⟩
  ·exact ⟨fun h=>(up_ne g).trans ((I.cc q).1 ((List.mem_append.mp h).elim id fun k=>absurd (List.mem_singleton.mp k) g)),fun h=>(up_ne g).trans ((I.cc q).2 fun k=>h (List.mem_append_left _ k))⟩
section
variable {d:Nat} {H:AH} {Q:Fl->St->Prop} {E:KX}
theorem wipe_loop {s:SC} {z:Sst} {bl:Nat} {bk:List Nat} {t0 t2 t3 t4 t5 t7 t8 t9 t10:Option AV} (B:Tbl s z H) (lc:∀ r,r < s.k.n->z.l r≠s.cl) (li:∀ r,r < s.k.n->∀ q,q < s.k.n->z.l r=z.l q->r=q) (hb:H[bl]?=some (.list (bk.map fun r:Nat=>.int (r:Int)))) (nb:bl≠s.cl) (hk:∀ r∈bk,r < s.k.n)
  (hQ:∀ a,WpI s z bk H bk.length a->Q .next ⟨[t0,some (.ref s.cl),t2,t3,t4,t5,some (.ref bl),a.t,t8,t9,t10],a.H⟩) :
  vS T (callN T d) (.for (.loc 7 25363392) (.loc 6 25478720) b_law_asked_3_0 25299905) ⟨[t0,some (.ref s.cl),t2,t3,t4,t5,some (.ref bl),t7,t8,t9,t10],H⟩ Q E:=by
 refine Lst.mk _ hb (forL (fun j (a:WpA)=>⟨[t0,some (.ref s.cl),t2,t3,t4,t5,some (.ref bl),a.t,t8,t9,t10],a.H⟩) (WpI s z bk H) ⟨z.l,z.c,t7,H⟩ ⟨.refl,B.hc,B.ho,fun _ _=>.inl rfl,li,fun _=>rfl,fun _=>⟨(fun h=>nomatch h),fun _=>rfl⟩⟩ (fun n a J=>J.u.get hb fun q=>nb (List.mem_singleton.mp q)) (fun j r a e I=>?_) fun a I=>hQ a I)
 have hr:=hk r (List.mem_of_getElem? e)
 have u1:=fun {x:Nat} {o o':AObj} (e:a.H[x]?=some o)=>getApp (G':=[o']) e
 have le:(a.c r).length<=200:=(I.cl r).symm▸B.le r hr
 refine Lst.mk _ (u1 I.hc) (At.mk _ (rng_at hr) (Lst.mk _ (u1 (I.ho r hr)) ?_))
 rw [lst_len,I.cl r]
 refine Lst.mk _ (gLast _ _) ⟨Nat.le_trans (I.cl r▸le) (by decide),Lst.mk _ (getApp (u1 I.hc)) ⟨len_refs.symm▸hr,?_⟩⟩
 have e2:AObj.list (List.replicate (z.c r).length (AV.int (-1)))=lst (List.replicate (z.c r).length none):=by rw [lst,List.map_replicate,List.map_replicate];rfl
 rw [rng_set (g:=AV.ref),show (-((1:Nat):Int))=-1 from rfl,e2]
 exact Fxt.mk ⟨_,_,_,_⟩ rfl (I.next B lc e hr)
end
end Ab
end
section
namespace Ab
open PySem
noncomputable abbrev allB (s:SC) (z:Sst):AObj:=.list ((List.range s.k.n).map fun r=>.bytes (octs (z.c r)))
section
variable {d:Nat} {H:AH} {Q:AV->AH->Prop} {E:KX}
theorem same_all {s:SC} {z:Sst} {n a b:Nat} (ha:H[a]?=some (allB s z)) (hb:H[b]?=some (allB s z)):Same H (n + 2) (.ref a) (.ref b):=Lst.mk _ ha (Lst.mk _ hb ⟨rfl,fun i x y e1 e2=>by
 cases e1.symm.trans e2
 rw [List.getElem?_map] at e1
 obtain ⟨r,_,rfl⟩:=Option.map_eq_some_iff.mp e1
 rfl⟩)
theorem same_pair {n:Nat} {x a b:AV} (hx:Same H n x x) (h:Same H n a b):Same H (n+1) (.tup [x,a]) (.tup [x,b]):=⟨rfl,fun
 | 0,_,_,e1,e2=>by cases e1;cases e2;exact hx
 | 1,_,_,e1,e2=>by cases e1;cases e2;exact h
 | _ + 2,_,_,e1,_=>nomatch e1⟩
theorem asked_end {s:SC} {z:Sst} {w o:Nat} {t1 t2 t3 t4 t5 t6 t7 t9:Option AV} {E:Nat->AH->Prop} (B:Box s z H) (hf:missF z.c s.k.n 0=none) (hg:∀ r,r < s.k.n->gd s z r=true) (hw:H[w]?=some (allB s z)) (ho:H[o]?=some (allB s z)) (hQ:∀ H',Upd [] H H'->Q (.bool true) H') :
  vSs T (callN T (d + 4)) b_law_asked_0_9 ⟨[some (.ref s.b),t1,t2,t3,t4,t5,t6,t7,some (.ref w),t9,some (.ref o)],H⟩ (retK Q) fun c st=>st.on fun _ H=>E c H:=by
 refine .same (same_all ho hw) ⟨rfl,gather_good B hf hg fun H1 u1 h1=>?_⟩
 have w1:=u1.get0 hw
 exact .same (same_pair rfl (same_all (n:=4) h1 w1)) (.same (same_all (u1.get0 ho) w1) (hQ _ u1))
theorem full_ints {c:Cell} (h:¬ holeF c < c.length):(c.map ci).map AV.int=octInts (octs c):=(congrArg (fun c=>(c.map ci).map AV.int) (full_map h).symm).trans (by rw [ints_some,List.map_map];rfl)
theorem octs_le {c:Cell} {n:Nat} (h:c.length<=n):(octs c).length<=n:=Nat.le_trans (List.length_filterMap_le _ _) h
theorem asked_spoil {s:SC} {z:Sst} {H0:AH} {w o l way:Nat} {t1 t2 t4 t6 t7 t9:Option AV} {E:Nat->AH->Prop} (S:Side s z H0) (u:Upd [] H0 H) (l0:H0.length<=l) (hf:missF z.c s.k.n 0=none) (hg:∀ r,r < s.k.n->gd s z r=true) (n0:0 < s.k.n) (hl:H[l]?=some (allB s z))
  (hw:H[w]?=some (allB s z)) (ho:H[o]?=some (allB s z)) (lw:w≠l) (lo:o≠l) (hQ:∀ H',Upd [] H0 H'->Q (.bool true) H') :
  vSs T (callN T (d + 4)) b_law_asked_0_8 ⟨[some (.ref s.b),t1,t2,some (.int (way:Int)),t4,some (.ref l),t6,t7,some (.ref w),t9,some (.ref o)],H⟩ (retK Q) fun c st=>st.on fun _ H=>E c H:=by
 have fin:∀ {H':AH},Upd [l] H H'->vSs T (callN T (d + 4)) b_law_asked_0_9 ⟨[some (.ref s.b),t1,t2,some (.int (way:Int)),t4,some (.ref l),t6,t7,some (.ref w),t9,some (.ref o)],H'⟩ (retK Q) fun c st=>st.on fun _ H=>E c H:=fun u1 =>
  have u2:Upd [] H0 _:=u.fresh u1 l0
  asked_end (S.bx.upd0 u2) hf hg (u1.get hw fun q=>lw (List.mem_singleton.mp q)) (u1.get ho fun q=>lo (List.mem_singleton.mp q)) fun H' u3=>hQ H' (u2.trans u3)
 have ll:((List.range s.k.n).map fun r=>AV.bytes (octs (z.c r))).length=s.k.n:=len_refs
 have lm:s.k.n < LIM:=Nat.lt_of_le_of_lt S.tb.nl (by decide)
 rcases Decidable.em ((way:Int) % 3=0) with w0|w0
 ·refine ⟨by decide,ifT w0 (whl (fun a:List AV×AH=>a.1.length) (fun a=>⟨[some (.ref s.b),t1,t2,some (.int (way:Int)),t4,some (.ref l),t6,t7,some (.ref w),t9,some (.ref o)],a.2⟩) (fun a=>Upd [l] H a.2/\a.2[l]?=some (.list a.1)) (_,H) ⟨.refl,hl⟩ fun a J=>?_)⟩
  refine Lst.mk _ J.2 ?_
  rcases Decidable.em (a.1=[]) with g|g
  ·rw [g]
   exact fin J.1
  ·have e:=List.dropLast_concat_getLast g
   have l1:0 < a.1.length:=List.length_pos_iff.mpr g
   exact ifT (Int.ofNat_lt.mpr l1) ⟨Lst.mk _ J.2 trivial,rfl,Lst.mk _ J.2 ⟨_,_,e.symm,Nxt.mk (_,_) rfl (by rw [List.length_dropLast];exact Nat.sub_lt l1 Nat.one_pos) ⟨J.1.trans (.set (.head _)),getSet J.2⟩⟩⟩
 ·refine ⟨by decide,ifF w0 ⟨by decide,?_⟩⟩
  rcases Decidable.em ((way:Int) % 3=1) with w1|w1
  ·have ol:=octs_le (S.tb.le 0 n0)
   exact ifT w1 (Lst.mk _ hl (At.mk _ (rng_at n0) ⟨Nat.le_trans (Nat.add_le_add_right ol 1) (by decide),Lst.mk _ hl ⟨ll.symm▸n0,fin (.set (.head _))⟩⟩))
  ·exact ifF w1 ⟨Lst.mk _ hl trivial,Lst.mk _ hl ⟨ll.symm▸lm,fin (.set (.head _))⟩⟩
end
end Ab
end
section
namespace Ab
open PySem
section
variable {d:Nat} {H:AH} {Q:AV->AH->Prop}
theorem asked_good {s:SC} {z:Sst} {H0:AH} {l bl way:Nat} {t2 t7 t8 t9 t10:Option AV} {E:Nat->AH->Prop} (S:Side s z H0) (u:Upd [] H0 H) (l0:H0.length<=l) (hf:missF z.c s.k.n 0=none) (hg:∀ r,r < s.k.n->gd s z r=true) (n0:0 < s.k.n) (hl:H[l]?=some (allB s z))
  (hb:H[bl]?=some (.list [])) (hQ:∀ H',Upd [] H0 H'->Q (.bool true) H') :
  vSs T (callN T (d + 4)) b_law_asked_0_3 ⟨[some (.ref s.b),some (.ref s.cl),t2,some (.int (way:Int)),some (.int 0),some (.ref l),some (.ref bl),t7,t8,t9,t10],H⟩ (retK Q) fun c st=>st.on fun _ H=>E c H:=by
 have B:=S.tb.upd0 u
 refine Lst.mk _ hb (Lst.mk _ B.hc (forL (fun j (a:Option AV×AH)=>⟨[a.1],a.2⟩) (fun j a=>RowsI H (((List.range s.k.n).take j).map fun r=>AV.bytes (octs (z.c r))) a) (none,H++[AObj.list []]) ⟨.app,getLast'⟩ (fun n a J=>J.u.get0 B.hc) (fun j r a e J=>?_) fun a J=>?_))
 ·have hr:=List.mem_range.mp (List.mem_of_getElem? e)
  exact .inl (Lst.mk _ (J.u.get0 (B.ho r hr)) ⟨_,full_ints (miss_full hf hr),Lst.mk _ J.o ⟨len_take (n:=150) (List.length_range.symm▸B.nl) (by decide),Fxt.mk (_,_) rfl (J.push .refl (map_take_succ e))⟩⟩)
 have w1:=J.o
 rw [List.take_length] at w1
 have S1:=S.upd0 (u.trans J.u)
 refine ⟨rfl,gather_good S1.bx hf hg fun H2 u2 h2=>⟨rfl,?_⟩⟩
 have w2:=u2.get0 w1
 have l2:=u2.get0 (J.u.get0 hl)
 refine .same (same_all l2 w2) (.same (same_all h2 w2) (Lst.mk _ l2 (Lst.mk _ h2 ⟨?_,?_⟩)))
 ·rw [len_refs]
  exact Nat.le_trans (Nat.add_le_add B.nl B.nl) (by decide)
 rw [<-List.map_append]
 refine Lst.mk _ (gLast _ _) (forL (fun j (a:Option AV×AH)=>⟨[a.1],a.2⟩) (fun j a=>RowsI (H2++[AObj.list ((List.range s.k.n++List.range s.k.n).map fun r=>AV.bytes (octs (z.c r)))]) [] a) (none,_++[AObj.list []]) ⟨.app,getLast'⟩ (fun n b K=>K.u.get0 (gLast _ _)) (fun j r b e K=>?_) fun b K=>?_)
 ·exact Fxt.mk (_,_) rfl ⟨K.u,K.o⟩
 ·have u3:Upd [] H2 b.2:=Upd.app.trans K.u
  refine Lst.mk _ K.o ?_
  exact asked_spoil S ((u.trans J.u).trans (u2.trans u3)) l0 hf hg n0 (u3.get0 l2) (u3.get0 w2) (u3.get0 h2) (Nat.ne_of_gt (ltOf hl)) (Nat.ne_of_gt (Nat.lt_of_lt_of_le (ltOf hl) J.u.le)) hQ
end
section
variable {s:SC} {z:Sst} {H:AH}
theorem miss_no {c:Nat->Cell} {n:Nat} (h:∀ r,r < n->¬ holeF (c r) < (c r).length):missF c n 0=none:=by
 have key:∀ q,q<=n->missF c n 0=missF c (n - q) q:=fun q=>by
  induction q with
  | zero=>exact fun _=>rfl
  | succ q ih=>exact fun k=>(ih (Nat.le_of_succ_le k)).trans (miss_f k (h q k))
 exact (key n (Nat.le_refl _)).trans (by rw [Nat.sub_self];rfl)
noncomputable abbrev askS (s:SC) (z:Sst) (h l:Nat->Nat):Sst:=⟨h,l,leftC s z⟩
theorem mem_bads {r:Nat} (hr:r < s.k.n):r∈bads s z s.k.n↔gd s z r=false:=by
 rw [bads,List.mem_filter,List.mem_range]
 exact ⟨fun h=>Bool.not_eq_true' _▸h.2,fun h=>⟨hr,h▸rfl⟩⟩
theorem left_len (r:Nat):(leftC s z r).length=(z.c r).length:=by
 cases g:gd s z r with
 | true=>rw [left_t g]
 | false=>rw [left_f g,List.length_replicate]
theorem neL {x y w:Nat} (e:x=y) (h:y≠w):x≠w:=e▸h
theorem Side.asked {h':Nat->Nat} {H1 H2:AH} {a:WpA} (S:Side s z H) (M:Moved s z ⟨h',z.l,leftC s z⟩ H H1) (u:Upd [] H1 H2) (W:WpI s z (bads s z s.k.n) H2 (bads s z s.k.n).length a):Side s (askS s z h' a.l) a.H/\Go s z (askS s z h' a.l) H a.H:=by
 have le:=Nat.le_trans M.u.le u.le
 have m:=fun {x:Nat} {o:AObj} (n:x≠s.hl) (e:H[x]?=some o)=>u.get0 (M.u.get e fun q=>n (List.mem_singleton.mp q))
 have w:=fun {x:Nat} {o:AObj} (n:x≠s.cl) (e:H2[x]?=some o)=>W.u.get e fun q=>n (List.mem_singleton.mp q)
 have bn:∀ {x:Nat} {L:List AV},H[x]?=some (.list L)->s.b≠x:=fun e q=>nomatch (q▸S.bx.hb).symm.trans e
 have nh:∀ r,r < s.k.n->∀ x,x < H.length->z.h r≠x->h' r≠x:=fun r hr x lx n=>(M.nh r hr).elim (fun e=>neL e n) fun g=>Nat.ne_of_gt (Nat.lt_of_lt_of_le lx g)
 have nl:∀ r,r < s.k.n->∀ x,x < H.length->z.l r≠x->a.l r≠x:=fun r hr x lx n=>(W.nl r hr).elim (fun e=>neL e n) fun g=>Nat.ne_of_gt (Nat.lt_of_lt_of_le lx (Nat.le_trans le g))
 have cc:∀ r,r < s.k.n->a.c r=leftC s z r:=fun r hr=>by
  have k:=W.cc r
  rw [List.take_length] at k
  cases g:gd s z r with
  | true=>rw [left_t g,k.2 fun q=>nomatch g.symm.trans ((mem_bads hr).mp q)]
  | false=>rw [left_f g,k.1 ((mem_bads hr).mpr g)]
 have hn:=ltOf S.bx.hh
 have cn:=ltOf S.tb.hc
 have Mn:=(S.bx.man.upd M.u fun x h=>List.mem_singleton.mp h▸S.bx.hN).upd0 u
 refine ⟨⟨⟨Mn.upd W.u fun x h=>List.mem_singleton.mp h▸S.Nc,w (bn S.tb.hc) (m (bn S.bx.hh) S.bx.hb),w S.hc.symm (u.get0 M.hh),fun r hr=>w (nh r hr _ cn (S.nc r hr)) (u.get0 (M.ho r hr)),fun r hr=>(S.bx.sz r hr).trans (left_len r).symm,S.bx.l1,S.bx.l0,S.bx.hN,fun r hr=>nh r hr _ hn (S.bx.ne r hr)⟩,
  ⟨W.hc,fun r hr=>(W.ho r hr).trans (congrArg (fun c=>some (lst c)) (cc r hr)),S.tb.nl,fun r hr=>(left_len r).symm▸S.tb.le r hr⟩,S.hc,fun r hr=>nl r hr _ hn (S.lh r hr),fun r hr=>nl r hr _ cn (S.lc r hr),W.li,fun r hr=>nh r hr _ cn (S.nc r hr),fun r hr q hq=>?_,S.Nc,fun r hr=>?_⟩,
  ⟨(M.u.ch (F:=Foot s z) fun x h=>.inl (List.mem_singleton.mp h)).trans ((u.ch0 (F:=Foot s z)).trans (W.u.ch (F:=Foot s z) fun x h=>.inr (.inl (List.mem_singleton.mp h))) fun _ h=>.inl h) fun _ h=>.inl h,fun r hr=>(W.nl r hr).imp id (Nat.le_trans le),fun r hr=>M.nh r hr⟩⟩
 ·rcases W.nl q hq with e|g
  ·exact fun k=>nh r hr _ (ltOf (S.tb.ho q hq)) (S.nl r hr q hq) (k.trans e)
  ·exact Nat.ne_of_lt (Nat.lt_of_lt_of_le (ltOf (u.get0 (M.ho r hr))) g)
 ·rcases W.nl r hr with e|g
  ·exact Nat.le_trans (S.Nl r hr) (Nat.le_of_eq e.symm)
  ·exact Nat.le_trans S.bx.hN (Nat.le_trans (Nat.le_of_lt hn) (Nat.le_trans le g))
end
section
variable {d:Nat} {H:AH} {Q:AV->AH->Prop} {E:Nat->AH->Prop}
theorem asked_spec {s:SC} {z:Sst} {ch way:Nat} (S:Side s z H) (C:Chk s z ch H) (n0:0 < s.k.n) (hQ:∀ H' z',Side s z' H'->Go s z z' H H'->((∀ r,r < s.k.n->¬ holeF (z.c r) < (z.c r).length)->∀ r,r < s.k.n->z'.c r=leftC s z r)->Q (.bool true) H') :
  callN T (d + 5) 0 i_law_asked [.ref s.b,.ref s.cl,.ref ch,.int (way:Int)] H Q E:=by
 refine enter fd_law_asked rfl rfl ?_
 cases hf:missF z.c s.k.n 0 with
 | some p =>
  refine ⟨rfl,gather_short S.bx (hf▸rfl) fun l H1 u1=>⟨rfl,rfl,hole_spec (S.tb.upd0 u1) ?_⟩⟩
  rw [hf]
  exact ⟨rfl,hQ _ z (S.upd0 u1) (.nil u1) fun h=>absurd hf (by rw [miss_no h];exact fun q=>nomatch q)⟩
 | none =>
  have full:=fun r (hr:r < s.k.n)=>miss_full hf hr
  rcases Classical.em (∀ r,r < s.k.n->gd s z r=true) with hg|hg
  ·refine ⟨rfl,gather_good S.bx hf hg fun H1 u1 h1=>⟨rfl,rfl,hole_spec (S.tb.upd0 u1) ?_⟩⟩
   rw [hf]
   refine ⟨rfl,broken_spec (S.tb.upd0 u1) S.bx.sz full (u1.get0 C.at') fun H2 u2 h2=>?_⟩
   rw [gd_all hg] at h2
   exact asked_good S (u1.trans u2) (Nat.le_refl _) hf hg n0 (u2.get0 h1) h2 fun H' u=>hQ H' z (S.upd0 u) (.nil u) fun _ r hr=>(left_t (hg r hr)).symm
  ·obtain ⟨r,hr,hg⟩:∃ r,r < s.k.n/\gd s z r=false:=Classical.byContradiction fun q=>hg fun r hr=>(Bool.eq_false_or_eq_true (gd s z r)).elim id fun e=>absurd ⟨r,hr,e⟩ q
   refine ⟨rfl,gather_bad S.bx hf hr hg fun l H0 H1 h' M u1=>⟨rfl,rfl,?_⟩⟩
   have lt:=fun {x:Nat} {o:AObj} (n:x≠s.hl) (e:H[x]?=some o)=>u1.get0 (M.u.get e fun q=>n (List.mem_singleton.mp q))
   have B:Tbl s z H1:=⟨lt S.hc S.tb.hc,fun r hr=>lt (S.lh r hr) (S.tb.ho r hr),S.tb.nl,S.tb.le⟩
   refine hole_spec B ?_
   rw [hf]
   refine ⟨rfl,broken_spec B S.bx.sz full (lt (fun q=>C.off (.inl q)) C.at') fun H2 u2 h2=>?_⟩
   have l0:0 < (bads s z s.k.n).length:=List.length_pos_of_mem ((mem_bads hr).mpr hg)
   refine Lst.mk _ h2 (ifT (by rw [List.length_map];exact Int.ofNat_lt.mpr l0) (wipe_loop (B.upd0 u2) S.lc S.li h2 (Nat.ne_of_gt (ltOf B.hc)) (fun r h=>bads_lt h) fun a W=>?_))
   obtain ⟨S',g⟩:=S.asked M (u1.trans u2) W
   exact hQ _ _ S' g fun _ _ _=>rfl
end
end Ab
end
section
namespace Ab
open PySem
theorem cut_room {b:List UInt8} {lo hi:Nat} (h:lo<=b.length):lo + (cutL b lo hi).length<=b.length:=by
 rw [cutL,List.length_drop]
 rcases Nat.le_total lo (b.take hi).length with g|g
 ·rw [Nat.add_sub_cancel' g]
  exact List.length_take_le' _ _
 ·rw [Nat.sub_eq_zero_of_le g]
  exact h
section
variable {d:Nat} {H:AH} {Q:AV->AH->Prop}
section
variable {s:SC} {z:Sst} {co de zz r p:Nat} {ct:Nat->List UInt8} {pc:List UInt8} {E:Nat->AH->Prop} (S:Side s z H) (C:Cont s z co ct H) (hr:r < s.k.n) (hp:p<=(ct r).length) (hpc:p + pc.length<=(ct r).length)
 (hQ:∀ H' z',Side s z' H'->Go s z z' H H'->Q (.bool true) H')
include S C hr hp hpc hQ
theorem deed_rest:vSs T (callN T (d + 4)) b_law_deed_0_5 ⟨[some (.ref s.b),some (.ref s.cl),some (.int (s.lim:Int)),some (.ref co),some (.int (de:Int)),some (.int (zz:Int)),some (.int (r:Int)),some (.bytes (ct r)),some (.int (p:Int)),some (.bytes pc)],H⟩ (retK Q) fun c st=>st.on fun _ H=>E c H:=by
 have no:=hQ H z S (.nil .refl)
 have sz:=C.sz r hr
 rcases Decidable.em ((de:Int) < 2) with c0|c0
 ·exact ifT c0 ⟨rfl,ltake_yes S hr (sz▸hpc) fun H' h' S' g=>hQ _ _ S' g⟩
 refine ifF c0 ?_
 rcases Decidable.em ((de:Int)=2) with c2|c2
 ·refine ifT c2 ⟨by decide,by decide,?_⟩
  rcases Decidable.em ((zz:Int) / 16 % 4=0) with g0|g0
  ·exact ifT g0 ⟨rfl,ltake_no S (.inl (by decide)) no⟩
  refine ifF g0 (ifT c2 ⟨by decide,by decide,?_⟩)
  rcases Decidable.em ((zz:Int) / 16 % 4=1) with g1|g1
  ·refine ifT g1 ⟨rfl,Lst.mk _ C.at' ?_⟩
   rw [len_refs]
   exact ltake_no S (.inr (.inl (Int.le_refl _))) no
  refine ifF g1 (ifT c2 ⟨by decide,by decide,?_⟩)
  rcases Decidable.em ((zz:Int) / 16 % 4=2) with g2|g2
  ·exact ifT g2 ⟨rfl,ltake_no S (.inr (.inr (.inl (by decide)))) no⟩
  have pl:=Nat.le_trans hp (sz▸S.tb.le r hr)
  have cl:(cutL (ct r) p (ct r).length).length=(ct r).length - p:=cutLen (Nat.le_refl _)
  refine ifF g2 (ifT c2 ⟨rfl,Nat.lt_of_le_of_lt pl (by decide),?_,ltake_no S (.inr (.inr (.inr ⟨r,rfl,hr,?_⟩))) no⟩)
  ·rw [cl]
   exact Nat.le_trans (Nat.add_le_add_right (Nat.le_trans (Nat.sub_le _ _) (sz▸S.tb.le r hr)) 1) (by decide)
  ·have e:(z.c r).length < p + (cutL (ct r) p (ct r).length++[33]).length:=by
    rw [List.length_append,cl,<-sz,<-Nat.add_assoc,Nat.add_sub_cancel' hp]
    exact Nat.lt_succ_self _
   exact Int.ofNat_lt.mpr e
 refine ifF c2 (ifF c2 (ifF c2 (ifF c2 (ifF c2 (ifF c2 (ifF c2 ?_))))))
 rcases Decidable.em ((de:Int)=3) with c3|c3
 ·exact ifT c3 ⟨rfl,fill_spec (fa:=0) (gap:=none) (zz:=0) S C (fun _ _ h=>nomatch h) fun H' z' S' g _ _=>hQ H' z' S' g⟩
 refine ifF c3 ?_
 rcases Decidable.em ((de:Int)=4) with c4|c4
 ·exact ifT c4 ⟨rfl,fill_spec (fa:=0) (gap:=some (r,p)) (zz:=0) S C (fun _ _ h=>by cases h;exact sz▸hp) fun H' z' S' g _ _=>hQ H' z' S' g⟩
 refine ifF c4 ?_
 rcases Decidable.em ((de:Int)=5) with c5|c5
 ·exact ifT c5 ⟨rfl,by decide,by decide,fill_spec (fa:=zz % 16) (gap:=none) (zz:=zz / 16) S C (fun _ _ h=>nomatch h) fun H' z' S' g _ _=>hQ H' z' S' g⟩
 exact ifF c5 no
theorem deed_mid:vSs T (callN T (d + 4)) b_law_deed_0_4 ⟨[some (.ref s.b),some (.ref s.cl),some (.int (s.lim:Int)),some (.ref co),some (.int (de:Int)),some (.int (zz:Int)),some (.int (r:Int)),some (.bytes (ct r)),some (.int (p:Int)),some (.bytes pc)],H⟩ (retK Q) fun c st=>st.on fun _ H=>E c H:=by
 rcases Decidable.em ((de:Int)=1/\((0:Nat):Int) < (pc.length:Int)) with g|g
 ·refine ifT g.1 (ifT g.2 ⟨rfl,by decide,by decide,?_⟩)
  refine spoil_spec (p:=0) (y:=1 + zz / 8 % 255) (Int.ofNat_lt.mp g.2) (Nat.le_trans (Nat.le_trans (Nat.le_add_left _ _) hpc) (C.sz r hr▸S.tb.le r hr)) fun b' H1 lb _ u=>?_
  exact deed_rest (S.upd0 u) ⟨u.get0 C.at',C.off,C.sz,C.n⟩ hr hp (lb.symm▸hpc) fun H' z' S' g=>hQ H' z' S' ((Go.nil u).trans g)
 ·exact andF g (deed_rest S C hr hp hpc hQ)
end
theorem deed_spec {s:SC} {z:Sst} {co de zz:Nat} {ct:Nat->List UInt8} {E:Nat->AH->Prop} (S:Side s z H) (C:Cont s z co ct H) (n0:0 < s.k.n) (hz:zz<=10000000) (hQ:∀ H' z',Side s z' H'->Go s z z' H H'->Q (.bool true) H') :
  callN T (d + 5) 0 i_law_deed [.ref s.b,.ref s.cl,.int (s.lim:Int),.ref co,.int (de:Int),.int (zz:Int)] H Q E:=by
 refine enter fd_law_deed rfl rfl (Lst.mk _ C.at' ?_)
 rw [len_refs]
 have hr:=Nat.mod_lt zz n0
 have hl:(ct (zz % s.k.n)).length<=200:=(C.sz _ hr).symm▸S.tb.le _ hr
 refine ⟨Int.ofNat_lt.mpr n0,Lst.mk _ C.at' (At.mk _ (rng_at hr) ⟨by decide,Int.ofNat_lt.mpr (Nat.succ_pos _),?_⟩)⟩
 have hp:zz / 4 % ((ct (zz % s.k.n)).length+1)<=(ct (zz % s.k.n)).length:=Nat.le_of_lt_succ (Nat.mod_lt _ (Nat.succ_pos _))
 have big:zz / 4 % ((ct (zz % s.k.n)).length+1)+1 + zz / 124 % 12<=300:=Nat.le_trans (Nat.add_le_add (Nat.succ_le_succ (Nat.le_trans hp hl)) (Nat.le_of_lt (Nat.mod_lt _ (by decide)))) (by decide)
 refine ⟨by decide,by decide,Nat.lt_of_le_of_lt (m:=200) (Nat.le_trans hp hl) (by decide),Nat.lt_of_le_of_lt (m:=300) big (by decide),?_⟩
 exact deed_mid (p:=zz / 4 % ((ct (zz % s.k.n)).length+1)) S C hr hp (cut_room hp) hQ
end
end Ab
end
section
namespace Ab
open PySem
noncomputable def oi (x:UInt8):Int:=(x.toNat:Int)
noncomputable def insB (x:UInt8):List UInt8->List UInt8
 | []=>[x]
 | y::r=>if oi x<=oi y then x::y::r else y::insB x r
noncomputable def sortB:List UInt8->List UInt8
 | []=>[]
 | x::r=>insB x (sortB r)
theorem insT {x y:UInt8} {r:List UInt8} (g:oi x<=oi y):insB x (y::r)=x::y::r:=if_pos g
theorem insN {x y:UInt8} {r:List UInt8} (g:¬ oi x<=oi y):insB x (y::r)=y::insB x r:=if_neg g
theorem ins_map (x:UInt8):∀ L:List UInt8,insertI (oi x) (L.map oi)=(insB x L).map oi
 | []=>rfl
 | y::r=>by
  rcases Decidable.em (oi x<=oi y) with g|g
  ·exact (if_pos g).trans (congrArg (List.map oi) (insT g).symm)
  ·exact (if_neg g).trans ((congrArg (oi y::·) (ins_map x r)).trans (congrArg (List.map oi) (insN g).symm))
theorem sort_map:∀ L:List UInt8,sortI (L.map oi)=(sortB L).map oi
 | []=>rfl
 | x::r=>(congrArg (insertI (oi x)) (sort_map r)).trans (ins_map x _)
theorem ins_chk (x:UInt8):∀ L:List UInt8,((insB x L).map (·.toNat)).sum=x.toNat + (L.map (·.toNat)).sum/\(insB x L).length=L.length+1
 | []=>⟨rfl,rfl⟩
 | y::r=>by
  rcases Decidable.em (oi x<=oi y) with g|g
  ·rw [insT g]
   exact ⟨rfl,rfl⟩
  ·obtain ⟨h1,h2⟩:=ins_chk x r
   rw [insN g,List.map_cons,List.sum_cons,h1,List.length_cons,h2]
   exact ⟨Nat.add_left_comm _ _ _,rfl⟩
theorem sort_chk:∀ L:List UInt8,((sortB L).map (·.toNat)).sum=(L.map (·.toNat)).sum/\(sortB L).length=L.length
 | []=>⟨rfl,rfl⟩
 | x::r=>⟨(ins_chk x _).1.trans (congrArg (x.toNat + ·) (sort_chk r).1),(ins_chk x _).2.trans (congrArg (·+1) (sort_chk r).2)⟩
section
variable {d:Nat} {H:AH} {Q:AV->AH->Prop} {E:Nat->AH->Prop}
theorem fits_spec {l zz:Nat} {r:RI} {ct:List UInt8} (hl:H[l]?=some r.obj) (hsz:r.size=ct.length) (hck:r.check=chk ct) (h0:0 < ct.length) (h1:ct.length<=60) (hQ:∀ H',Upd [] H H'->Q (.bool true) H') :
  callN T (d + 3) 0 i_law_fits [.ref l,.bytes ct,.int (zz:Int)] H Q E:=by
 have h2:=Nat.le_trans h1 (by decide:60<=200)
 refine enter fd_law_fits rfl rfl ⟨rfl,sum_b h2 ⟨rfl,ri_init ⟨0,ct.length+1,chk ct,[97],[98,99]⟩ ⟨rfl,mth getLast' rfl (ri_fits getLast' h2 (ifF (fun h=>Nat.ne_of_lt (Nat.lt_succ_self _) h.1) ?_))⟩⟩⟩
 refine ⟨rfl,ri_init ⟨0,ct.length,chk ct+1,[97],[98,99]⟩ ⟨rfl,mth getLast' rfl (ri_fits getLast' h2 (ifF (fun h=>Nat.ne_of_lt (Nat.lt_succ_self _) h.2) ?_))⟩⟩
 have u1:Upd [] H (H++[RI.obj ⟨0,ct.length+1,chk ct,[97],[98,99]⟩]++[RI.obj ⟨0,ct.length,chk ct+1,[97],[98,99]⟩]):=.trans .app .app
 refine mth (u1.get0 hl) rfl ⟨rfl,Int.ofNat_lt.mpr h0,by decide,by decide,spoil_spec (p:=zz % ct.length) (y:=1 + zz / 32 % 255) (Nat.mod_lt _ h0) h2 fun b' H3 lb ne u3=>?_⟩
 have v3:=u1.trans u3
 refine ri_fits (v3.get0 hl) (lb.symm▸h2) (ifF (fun h=>ne spoil_by (h.2.trans hck)) (mth (v3.get0 hl) rfl ⟨Nat.le_trans (Nat.add_le_add_right h1 1) (by decide),ri_fits (v3.get0 hl) (by rw [List.length_append];exact Nat.le_trans (Nat.add_le_add_right h1 1) (by decide)) (ifF (fun h=>?_) ?_)⟩))
 ·have:=h.1
  rw [List.length_append,hsz] at this
  exact Nat.ne_of_gt (Nat.lt_succ_self _) this
 ·refine mth (v3.get0 hl) rfl (ri_fits (v3.get0 hl) h2 (ifT ⟨hsz.symm,hck.symm⟩ ?_))
  obtain ⟨s1,s2⟩:=sort_chk ct
  refine mth (v3.get0 hl) rfl ⟨Nat.lt_of_le_of_lt h1 (by decide),.inl (Lst.mk _ (gLast _ _) ⟨sortB ct,(congrArg (List.map AV.int) (sort_map ct)).trans (List.map_map ..),?_⟩)⟩
  refine ri_fits (getApp (v3.get0 hl)) (s2.symm▸h2) ?_
  rw [decide_eq_true (show (sortB ct).length=r.size/\chk (sortB ct)=r.check from ⟨s2.trans hsz.symm,by rw [chk,s1,s2];exact hck.symm⟩)]
  exact hQ _ (v3.trans .app)
end
end Ab
end
section
namespace Ab
open PySem
structure WK where
 m:MC
 b:Nat->Nat
 hl:Nat->Nat
 lim:Nat->Nat
 cl:Nat->Nat
 ct:Nat->List UInt8
 bx:Nat
 ce:Nat
 li:Nat
 co:Nat
 ch:Nat
 ln:Nat
 nums:List Nat
 z0:AObj
noncomputable def WK.s (k:WK) (w:Nat):SC:=⟨k.m,k.b w,k.hl w,k.lim w,k.cl w⟩
noncomputable def WK.L (k:WK):List (Nat×AObj):=[(k.bx,refs 2 k.b),(k.ce,refs 2 k.cl),(k.li,.list ((List.range 2).map fun w=>.int (k.lim w:Int))),(k.co,.list ((List.range k.m.n).map fun r=>.bytes (k.ct r))),(k.ch,.list ((List.range k.m.n).map fun r=>.int ((k.m.p r).2.check:Int))),(k.ln,natL k.nums),(0,k.z0)]
structure WK.Ok (k:WK):Prop where
 sz:∀ r,r < k.m.n->(k.ct r).length=(k.m.p r).2.size
 ck:∀ r,r < k.m.n->(k.m.p r).2.check=chk (k.ct r)
 n1:k.m.n<=10
 n0:0 < k.m.n
 c0:0 < (k.ct 0).length
 l1:k.nums.length<=100
 l0:0 < k.nums.length
 lt:∀ n∈k.nums,n < 999983
def Env (k:WK) (w:Nat) (z:Sst) (H:AH):Prop:=∀ p∈k.L,H[p.1]?=some p.2/\¬ Foot (k.s w) z p.1
section
variable {k:WK} {w:Nat} {z z':Sst} {H H':AH}
theorem Env.go (V:Env k w z H) (g:Go (k.s w) z z' H H'):Env k w z' H':=fun p hp=>⟨g.u.at' _ _ (V p hp).2 (V p hp).1,g.off (V p hp).1 (V p hp).2⟩
theorem Env.bx (V:Env k w z H):H[k.bx]?=some (refs 2 k.b):=(V _ (.head _)).1
theorem Env.ce (V:Env k w z H):H[k.ce]?=some (refs 2 k.cl):=(V _ (.tail _ (.head _))).1
theorem Env.li (V:Env k w z H):H[k.li]?=some (.list ((List.range 2).map fun w=>.int (k.lim w:Int))):=(V _ (.tail _ (.tail _ (.head _)))).1
theorem Env.cont (V:Env k w z H) (K:k.Ok) (S:Side (k.s w) z H):Cont (k.s w) z k.co k.ct H :=
 have h:=V _ (.tail _ (.tail _ (.tail _ (.head _))))
 ⟨h.1,h.2,fun r hr=>(K.sz r hr).trans (S.bx.sz r hr),K.n1⟩
theorem Env.chk (V:Env k w z H):Chk (k.s w) z k.ch H :=
 have h:=V _ (.tail _ (.tail _ (.tail _ (.tail _ (.head _)))))
 ⟨h.1,h.2⟩
theorem Env.ln (V:Env k w z H):H[k.ln]?=some (natL k.nums):=(V _ (.tail _ (.tail _ (.tail _ (.tail _ (.tail _ (.head _))))))).1
end
section
variable {s:SC} {z z':Sst} {r:Nat}
theorem gd_congr (e:z'.c r=z.c r):gd s z' r=gd s z r:=by rw [gd,gd,e]
def Done (s:SC) (z:Sst):Prop:=∀ r,r < s.k.n->¬ holeF (z.c r) < (z.c r).length/\gd s z r=true
def Half (s:SC) (z:Sst):Prop:=∀ r,r < s.k.n->(¬ holeF (z.c r) < (z.c r).length/\gd s z r=true)\/z.c r=List.replicate (z.c r).length none
theorem Done.congr (D:Done s z) (h:∀ r,r < s.k.n->z'.c r=z.c r):Done s z':=fun r hr=>⟨h r hr▸(D r hr).1,(gd_congr (h r hr)).trans (D r hr).2⟩
theorem Done.left (D:Done s z) (h:∀ r,r < s.k.n->z'.c r=leftC s z r):Done s z':=D.congr fun r hr=>(h r hr).trans (left_t (D r hr).2)
theorem half_of (hf:∀ r,r < s.k.n->¬ holeF (z.c r) < (z.c r).length) (h:∀ r,r < s.k.n->z'.c r=leftC s z r):Half s z':=fun r hr=>by
 cases g:gd s z r with
 | true =>
  have e:=(h r hr).trans (left_t g)
  exact .inl ⟨e▸hf r hr,(gd_congr e).trans g⟩
 | false =>
  have e:=(h r hr).trans (left_f g)
  exact .inr (by rw [e,List.length_replicate])
theorem cat_nones {n i:Nat}:cat (List.replicate n none) i=none:=by
 rcases Nat.lt_or_ge i n with h|h
 ·exact cat_of (by rw [List.getElem?_replicate,if_pos h])
 ·exact cat_ge (by rw [List.length_replicate];exact h)
theorem fill_nones (b:List UInt8):fill (List.replicate b.length none) 0 b=b.map some:=cell_ext (by rw [fillLen,List.length_replicate,List.length_map]) fun i hi=>by
 rw [List.length_map] at hi
 rw [fill_new (by rw [List.length_replicate];exact hi) cat_nones (Nat.zero_le _),cat_map,Nat.sub_zero]
theorem done_of {k:WK} {w:Nat} {H:AH} (K:k.Ok) (S:Side (k.s w) z H) (D:Half (k.s w) z) (hf:∀ r,r < k.m.n->¬ holeF (z'.c r) < (z'.c r).length) (hv:∀ r,r < k.m.n->z'.c r=fill (z.c r) 0 (k.ct r)):Done (k.s w) z':=fun r hr=>by
 refine ⟨hf r hr,?_⟩
 rcases D r hr with h|h
 ·exact (gd_congr ((hv r hr).trans (fill_id h.1))).trans h.2
 ·have l:(z.c r).length=(k.ct r).length:=((K.sz r hr).trans (S.bx.sz r hr)).symm
  have e:z'.c r=(k.ct r).map some:=by rw [hv r hr,h,l,fill_nones]
  exact decide_eq_true (by rw [e,octs_map];exact ⟨K.sz r hr,(K.ck r hr).symm⟩)
end
end Ab
end
section
namespace Ab
open PySem
structure EnA where
 z:Sst
 t:Option AV
 H:AH
structure EnI (k:WK) (w:Nat) (z:Sst) (H:AH) (j:Nat) (a:EnA):Prop where
 S:Side (k.s w) a.z a.H
 g:Go (k.s w) z a.z H a.H
 h:j=1->Half (k.s w) a.z
 d:j=2->Done (k.s w) a.z
section
variable {d:Nat} {H:AH} {Q:AV->AH->Prop}
theorem late {k:WK} {w:Nat} {z:Sst} {pc:List UInt8} {E:Nat->AH->Prop} (K:k.Ok) (S:Side (k.s w) z H) (D:Done (k.s w) z) (hp:pc.length=(k.ct 0).length) (hQ:∀ H' z',Side (k.s w) z' H'->Go (k.s w) z z' H H'->Done (k.s w) z'->Q (.bool true) H') :
  callN T (d + 3) 0 i_law_take [.ref (k.b w),.ref (k.cl w),.int (k.lim w:Int),.int 0,.int 0,.bytes pc] H Q E :=
 ltake_yes (s:=k.s w) (r:=0) (o:=0) S K.n0 (by rw [Nat.zero_add,hp,K.sz 0 K.n0];exact Nat.le_of_eq (S.bx.sz 0 K.n0)) fun H' h' S' g=>hQ H' _ S' g (D.congr fun r hr=>by
  rw [fill_id (D 0 K.n0).1]
  exact congrFun up_id r)
theorem ended_spec {k:WK} {w zz:Nat} {z:Sst} {E:Nat->AH->Prop} (K:k.Ok) (S:Side (k.s w) z H) (V:Env k w z H) (hw:w < 2) (hQ:∀ H' z',Side (k.s w) z' H'->Go (k.s w) z z' H H'->Q (.bool true) H') :
  callN T (d + 6) 0 i_law_ended [.ref k.bx,.ref k.ce,.ref k.li,.ref k.co,.ref k.ch,k.m.mf.row,.int (w:Int),.int (zz:Int)] H Q E:=by
 refine enter fd_law_ended rfl rfl ⟨by decide,forN (fun j (a:EnA)=>⟨[some (.ref k.bx),some (.ref k.ce),some (.ref k.li),some (.ref k.co),some (.ref k.ch),some k.m.mf.row,some (.int (w:Int)),some (.int (zz:Int)),a.t],a.H⟩) (EnI k w z H) ⟨z,none,H⟩ ⟨S,.nil .refl,(fun h=>nomatch h),fun h=>nomatch h⟩ (fun j a hj I=>?_) fun a I=>?_⟩
 ·have V1:=V.go I.g
  refine ⟨rfl,Lst.mk _ V1.bx (At.mk _ (rng_at hw) (Lst.mk _ V1.ce (At.mk _ (rng_at hw) (Lst.mk _ V1.li (At.mk _ (rng_at hw) ?_)))))⟩
  refine fill_spec (s:=k.s w) (fa:=0) (gap:=none) (zz:=0) I.S (V1.cont K I.S) (fun _ _ h=>nomatch h) fun H2 z2 S2 g2 f2 v2=>?_
  have V2:=V1.go g2
  refine ⟨rfl,Lst.mk _ V2.bx (At.mk _ (rng_at hw) (Lst.mk _ V2.ce (At.mk _ (rng_at hw) ?_)))⟩
  refine asked_spec (s:=k.s w) (way:=zz + j) S2 V2.chk K.n0 fun H3 z3 S3 g3 f3=>Fxt.mk ⟨z3,_,_⟩ rfl ⟨S3,(I.g.trans g2).trans g3,fun _=>half_of (f2 rfl) (f3 (f2 rfl)),fun e=>?_⟩
  have D:=done_of K I.S (I.h (Nat.succ.inj e)) (f2 rfl) (v2 rfl rfl)
  exact D.left (f3 (f2 rfl))
 ·have D:=I.d rfl
  have V1:=V.go I.g
  refine Lst.mk _ V1.bx (At.mk _ (rng_at hw) (mth I.S.bx.hb rfl (whole_spec I.S.bx (ifX (c:=false) (by rw [miss_no fun r hr=>(D r hr).1];rfl) ?_))))
  refine ⟨rfl,Lst.mk _ V1.bx (At.mk _ (rng_at hw) (Lst.mk _ V1.ce (At.mk _ (rng_at hw) (Lst.mk _ V1.li (At.mk _ (rng_at hw) (Lst.mk _ (V1.cont K I.S).at' (At.mk _ (rng_at K.n0) ?_)))))))⟩
  refine late K I.S D rfl fun H2 z2 S2 g2 D2=>?_
  have V2:=V1.go g2
  have C2:=V2.cont K S2
  refine ⟨rfl,Lst.mk _ V2.bx (At.mk _ (rng_at hw) (Lst.mk _ V2.ce (At.mk _ (rng_at hw) (Lst.mk _ V2.li (At.mk _ (rng_at hw) ⟨rfl,Lst.mk _ C2.at' (At.mk _ (rng_at K.n0) ?_)⟩)))))⟩
  refine spoil_spec (p:=0) (y:=1) K.c0 (C2.sz 0 K.n0▸S2.tb.le 0 K.n0) fun b' H3 lb _ u3=>late K (S2.upd0 u3) D2 lb fun H4 z4 S4 g4 D4=>?_
  have g34:=(Go.nil (z:=z2) u3).trans g4
  have V4:=V2.go g34
  refine ⟨rfl,Lst.mk _ V4.bx (At.mk _ (rng_at hw) (Lst.mk _ V4.ce (At.mk _ (rng_at hw) ?_)))⟩
  refine asked_spec (s:=k.s w) (way:=zz + 2) S4 V4.chk K.n0 fun H5 z5 S5 g5 _=>?_
  have V5:=V4.go g5
  refine ⟨rfl,Lst.mk _ V5.bx (At.mk _ (rng_at hw) (Lst.mk _ V5.ce (At.mk _ (rng_at hw) ?_)))⟩
  exact same_spec (s:=k.s w) S5 fun H6 u6=>hQ H6 z5 (S5.upd0 u6) ((((I.g.trans g2).trans g34).trans g5).trans (.nil u6))
end
end Ab
end
section
namespace Ab
open PySem
section
variable {s:SC} {z z':Sst} {H H':AH} {F:Nat->Prop}
theorem Ch.man {k:MC} (u:Ch F H H') (M:Man k H) (hN:∀ x,F x->k.N<=x):Man k H' :=
 have n:∀ {y},y < k.N->¬ F y:=fun l q=>Nat.not_lt.mpr (hN _ q) l
 ⟨u.at' _ _ (n M.lm) M.hm,u.at' _ _ (n M.ll) M.hr,fun p hp=>u.at' _ _ (n (M.lo p hp)) (M.ho p hp),M.lm,M.ll,M.lo,M.eq,M.ok⟩
theorem Side.other (S:Side s z H) (u:Ch F H H') (hx:∀ x,Foot s z x->¬ F x) (hh:∀ r,r < s.k.n->¬ F (z.h r)) (hb:¬ F s.b) (hN:∀ x,F x->s.k.N<=x):Side s z H' :=
 ⟨⟨u.man S.bx.man hN,u.at' _ _ hb S.bx.hb,u.at' _ _ (hx _ (.inl rfl)) S.bx.hh,fun r hr=>u.at' _ _ (hh r hr) (S.bx.ho r hr),S.bx.sz,S.bx.l1,S.bx.l0,S.bx.hN,S.bx.ne⟩,
  ⟨u.at' _ _ (hx _ (.inr (.inl rfl))) S.tb.hc,fun r hr=>u.at' _ _ (hx _ (.inr (.inr ⟨r,hr,rfl⟩))) (S.tb.ho r hr),S.tb.nl,S.tb.le⟩,S.hc,S.lh,S.lc,S.li,S.nc,S.nl,S.Nc,S.Nl⟩
theorem Side.list (S:Side s z H) {x:Nat}:Foot s z x->∃ L,H[x]?=some (.list L)
 | .inl e=>⟨_,e▸S.bx.hh⟩
 | .inr (.inl e)=>⟨_,e▸S.tb.hc⟩
 | .inr (.inr ⟨r,hr,e⟩)=>⟨_,e▸S.tb.ho r hr⟩
theorem Side.low (S:Side s z H) {x:Nat}:Foot s z x->s.k.N<=x
 | .inl e=>e▸S.bx.hN
 | .inr (.inl e)=>e▸S.Nc
 | .inr (.inr ⟨r,hr,e⟩)=>e▸S.Nl r hr
theorem Side.in (S:Side s z H) {x:Nat} (h:Foot s z x):x < H.length:=(S.list h).elim fun _ e=>ltOf e
end
structure Wd (k:WK) (z:Nat->Sst) (H:AH):Prop where
 S:∀ w,w < 2->Side (k.s w) (z w) H
 V:∀ w,w < 2->Env k w (z w) H
 X:∀ v,v < 2->∀ w,w < 2->v≠w->∀ x,Foot (k.s v) (z v) x->¬ Foot (k.s w) (z w) x
 Y:∀ v,v < 2->∀ w,w < 2->v≠w->∀ r,r < k.m.n->¬ Foot (k.s v) (z v) ((z w).h r)
noncomputable abbrev rowv (k:WK) (z:Sst):AV:=.tup [k.m.mf.row,prow k.m.n z.c]
structure Kt (k:WK) (kp:Nat) (z:Nat->Sst) (y:Nat->Sst) (H:AH):Prop where
 W:Wd k z H
 at':H[kp]?=some (.list ((List.range 2).map fun w=>rowv k (y w)))
 n:k.m.N<=kp
 f:∀ w,w < 2->¬ Foot (k.s w) (z w) kp
 h:∀ w,w < 2->∀ r,r < k.m.n->(z w).h r≠kp
 e:∀ p∈k.L,p.1≠kp
section
variable {k:WK} {kp w:Nat} {z y:Nat->Sst} {z':Sst} {H H':AH}
theorem up_of {P:Nat->Sst->Prop} (h1:P w z') (h2:∀ v,v < 2->v≠w->P v (z v)):∀ v,v < 2->P v (up z w z' v):=fun v hv=>by
 rcases Decidable.em (v=w) with rfl|g
 ·rw [up_at]
  exact h1
 ·rw [up_ne g]
  exact h2 v hv g
theorem Wd.go (W:Wd k z H) (hw:w < 2) (g:Go (k.s w) (z w) z' H H') (S':Side (k.s w) z' H'):Wd k (up z w z') H':=by
 refine ⟨up_of (P:=fun v z=>Side (k.s v) z H') S' fun v hv n=>(W.S v hv).other g.u (W.X v hv w hw n) (W.Y w hw v hv n.symm) (fun q=>?_) fun x=>(W.S w hw).low,
  up_of (P:=fun v z=>Env k v z H') ((W.V w hw).go g) fun v hv n p hp=>⟨g.u.at' _ _ (W.V w hw p hp).2 (W.V v hv p hp).1,(W.V v hv p hp).2⟩,?_,?_⟩
 ·obtain ⟨L,e⟩:=(W.S w hw).list q
  exact nomatch e.symm.trans (W.S v hv).bx.hb
 ·refine up_of (P:=fun v z'=>∀ u,u < 2->v≠u->∀ x,Foot (k.s v) z' x->¬ Foot (k.s u) (up z w _ u) x) (fun u hu n x a b=>?_) fun v hv n u hu n2 x a b=>?_
  ·rw [up_ne n.symm] at b
   exact (g.foot a).elim (fun c=>W.X w hw u hu n x c b) fun l=>Nat.not_lt.mpr l ((W.S u hu).in b)
  ·rcases Decidable.em (u=w) with rfl|m
   ·rw [up_at] at b
    exact (g.foot b).elim (W.X v hv u hu n2 x a) fun l=>Nat.not_lt.mpr l ((W.S v hv).in a)
   ·rw [up_ne m] at b
    exact W.X v hv u hu n2 x a b
 ·refine up_of (P:=fun v z'=>∀ u,u < 2->v≠u->∀ r,r < k.m.n->¬ Foot (k.s v) z' ((up z w _ u).h r)) (fun u hu n r hr a=>?_) fun v hv n u hu n2 r hr a=>?_
  ·rw [up_ne n.symm] at a
   exact (g.foot a).elim (W.Y w hw u hu n r hr) fun l=>Nat.not_lt.mpr l (ltOf ((W.S u hu).bx.ho r hr))
  ·rcases Decidable.em (u=w) with rfl|m
   ·rw [up_at] at a
    exact (g.h r hr).elim (fun e=>W.Y v hv u hu n2 r hr (e▸a)) fun l=>Nat.not_lt.mpr l ((W.S v hv).in a)
   ·rw [up_ne m] at a
    exact W.Y v hv u hu n2 r hr a
theorem Kt.go (T:Kt k kp z y H) (hw:w < 2) (g:Go (k.s w) (z w) z' H H') (S':Side (k.s w) z' H'):Kt k kp (up z w z') y H' :=
 ⟨T.W.go hw g S',g.u.at' _ _ (T.f w hw) T.at',T.n,up_of (P:=fun v z=>¬ Foot (k.s v) z kp) (g.off T.at' (T.f w hw)) fun v hv _=>T.f v hv,
  up_of (P:=fun v z=>∀ r,r < k.m.n->z.h r≠kp) (fun r hr=>(g.h r hr).elim (fun e=>neL e (T.h w hw r hr)) fun l=>Nat.ne_of_gt (Nat.lt_of_lt_of_le (ltOf T.at') l)) fun v hv _=>T.h v hv,T.e⟩
theorem Kt.same (T:Kt k kp z y H) (u:Upd [] H H'):Kt k kp z y H' :=
 ⟨⟨fun w hw=>(T.W.S w hw).upd0 u,fun w hw p hp=>⟨u.get0 (T.W.V w hw p hp).1,(T.W.V w hw p hp).2⟩,T.W.X,T.W.Y⟩,u.get0 T.at',T.n,T.f,T.h,T.e⟩
theorem Kt.keep (T:Kt k kp z y H):Kt k kp z (up y w (z w)) (H.set kp (.list (((List.range 2).map fun v=>rowv k (y v)).set w (rowv k (z w))))):=by
 have u:Ch (·=kp) H (H.set kp (.list (((List.range 2).map fun v=>rowv k (y v)).set w (rowv k (z w))))):=(Upd.set (.head _)).ch (S:=[kp]) fun x h=>List.mem_singleton.mp h
 refine ⟨⟨fun v hv=>(T.W.S v hv).other u (fun x a b=>T.f v hv (b▸a)) (T.h v hv) (fun q=>nomatch T.at'.symm.trans (idx q.symm (T.W.S v hv).bx.hb)) fun x e=>e▸T.n,fun v hv p hp=>⟨u.at' _ _ (T.e p hp) (T.W.V v hv p hp).1,(T.W.V v hv p hp).2⟩,T.W.X,T.W.Y⟩,?_,T.n,T.f,T.h,T.e⟩
 rw [rng_set (g:=rowv k)]
 exact getSet T.at'
end
end Ab
end
section
namespace Ab
open PySem
structure TuA where
 z:Sst
 t:Option AV
 H:AH
structure TuI (k:WK) (w:Nat) (z:Sst) (H:AH) (a:TuA):Prop where
 S:Side (k.s w) a.z a.H
 g:Go (k.s w) z a.z H a.H
section
variable {d:Nat} {H:AH} {Q:Fl->St->Prop} {E:KX}
theorem sub1 {w:Nat} (hw:w < 2):(1:Int) - (w:Int)=((1 - w:Nat):Int):=(Int.ofNat_sub (Nat.le_of_lt_succ hw)).symm
theorem oth {w:Nat} (hw:w < 2):1 - w < 2/\1 - w≠w:=match w,hw with
 | 0,_=>⟨by decide,by decide⟩
 | 1,_=>⟨by decide,by decide⟩
section
variable {k:WK} {kp w:Nat} {z:Nat->Sst} {z2:Sst} {t0 t2 t3 t4 t5 t6 t7 t8 t9 t10 t12 t13 t15 t16 t18 t20:Option AV} (T:Kt k kp z z H) (hw:w < 2)
include T hw
theorem turn_end {H2:AH} (g:Go (k.s w) (z w) z2 H H2) (S:Side (k.s w) z2 H2) (hQ:∀ H' z',Kt k kp z' z' H'->Q .next ⟨[t0,some (.ref k.ln),t2,t3,t4,t5,t6,t7,t8,t9,t10,some k.m.mf.row,t12,t13,some (.ref k.bx),t15,t16,some (.ref kp),t18,some (.int (w:Int)),t20],H'⟩) :
  vSs Ab.T (callN Ab.T (d + 6)) b_law_14_1 ⟨[t0,some (.ref k.ln),t2,t3,t4,t5,t6,t7,t8,t9,t10,some k.m.mf.row,t12,t13,some (.ref k.bx),t15,t16,some (.ref kp),t18,some (.int (w:Int)),t20],H2⟩ Q E:=by
 have T2:=T.go hw g S
 obtain ⟨o1,o2⟩:=oth hw
 refine Nt.mk (a:=.int (1 - _)) _ (congrArg AV.int (sub1 hw)) (Lst.mk _ (T2.W.V w hw).bx (At.mk _ (rng_at o1) (mth (T2.W.S _ o1).bx.hb rfl (row_spec (s:=k.s (1 - w)) (T2.W.S _ o1).bx fun H3 u3=>?_))))
 have T3:=T2.same u3
 refine Nt.mk (a:=.int (1 - _)) _ (congrArg AV.int (sub1 hw)) (Lst.mk _ T3.at' (At.mk _ (rng_at o1) ?_))
 rw [up_ne o2]
 refine .same (same_row _ _ _) (Lst.mk _ (T3.W.V w hw).bx (At.mk _ (rng_at hw) (mth (T3.W.S w hw).bx.hb rfl (row_spec (s:=k.s w) (T3.W.S w hw).bx fun H4 u4=>?_))))
 have T4:=T3.same u4
 refine Lst.mk _ T4.at' ⟨by rw [List.length_map,List.length_range];exact hw,?_⟩
 have K:=T4.keep (w:=w)
 rw [show up z w (up z w z2 w)=up z w z2 from congrArg (up z w) up_at] at K
 exact hQ _ _ K
theorem turn_ended {zz:Nat} (K:k.Ok) (hQ:∀ H' z',Kt k kp z' z' H'->Q .next ⟨[t0,some (.ref k.ln),t2,some (.ref k.li),some (.ref k.co),some (.ref k.ch),t6,t7,t8,t9,t10,some k.m.mf.row,some (.ref k.m.m),some (.int (zz:Int)),some (.ref k.bx),some (.ref k.ce),t16,some (.ref kp),t18,some (.int (w:Int)),t20],H'⟩) :
  vSs Ab.T (callN Ab.T (d + 6)) b_law_14_0 ⟨[t0,some (.ref k.ln),t2,some (.ref k.li),some (.ref k.co),some (.ref k.ch),t6,t7,t8,t9,t10,some k.m.mf.row,some (.ref k.m.m),some (.int (zz:Int)),some (.ref k.bx),some (.ref k.ce),t16,some (.ref kp),t18,some (.int (w:Int)),t20],H⟩ Q E :=
 ⟨rfl,ended_spec K (T.W.S w hw) (T.W.V w hw) hw fun H2 z2 S2 g2=>turn_end T hw g2 S2 hQ⟩
theorem turn_end9 {H2:AH} (g:Go (k.s w) (z w) z2 H H2) (S:Side (k.s w) z2 H2) (hQ:∀ H' z',Kt k kp z' z' H'->Q .next ⟨[t0,some (.ref k.ln),t2,t3,t4,t5,t6,t7,t8,t9,t10,some k.m.mf.row,t12,t13,some (.ref k.bx),some (.ref k.ce),t16,some (.ref kp),t18,some (.int (w:Int)),t20],H'⟩) :
  vSs Ab.T (callN Ab.T (d + 6)) b_law_9_4 ⟨[t0,some (.ref k.ln),t2,t3,t4,t5,t6,t7,t8,t9,t10,some k.m.mf.row,t12,t13,some (.ref k.bx),some (.ref k.ce),t16,some (.ref kp),t18,some (.int (w:Int)),t20],H2⟩ Q E:=by
 obtain ⟨o1,o2⟩:=oth hw
 have V:=(T.W.V w hw).go g
 refine ⟨rfl,Lst.mk _ V.bx (At.mk _ (rng_at hw) (Lst.mk _ V.ce (At.mk _ (rng_at hw) (same_spec (s:=k.s w) S fun H1 u1=>?_))))⟩
 have T2:=T.go hw (g.trans (.nil u1)) (S.upd0 u1)
 refine Nt.mk (a:=.int (1 - _)) _ (congrArg AV.int (sub1 hw)) (Lst.mk _ (T2.W.V w hw).bx (At.mk _ (rng_at o1) (mth (T2.W.S _ o1).bx.hb rfl (row_spec (s:=k.s (1 - w)) (T2.W.S _ o1).bx fun H3 u3=>?_))))
 have T3:=T2.same u3
 refine Nt.mk (a:=.int (1 - _)) _ (congrArg AV.int (sub1 hw)) (Lst.mk _ T3.at' (At.mk _ (rng_at o1) ?_))
 rw [up_ne o2]
 refine .same (same_row _ _ _) (Lst.mk _ (T3.W.V w hw).bx (At.mk _ (rng_at hw) (mth (T3.W.S w hw).bx.hb rfl (row_spec (s:=k.s w) (T3.W.S w hw).bx fun H4 u4=>?_))))
 have T4:=T3.same u4
 refine Lst.mk _ T4.at' ⟨by rw [List.length_map,List.length_range];exact hw,?_⟩
 have K:=T4.keep (w:=w)
 rw [show up z w (up z w z2 w)=up z w z2 from congrArg (up z w) up_at] at K
 exact hQ _ _ K
end
theorem turn_spec {k:WK} {kp i:Nat} {z:Nat->Sst} {t0 t2 t6 t7 t8 t9 t10 t12 t13 t16 t19 t20:Option AV} (K:k.Ok) (T:Kt k kp z z H) (hi:i<=900)
  (hQ:∀ H' z' t9 t19 t20,Kt k kp z' z' H'->Q .next ⟨[t0,some (.ref k.ln),t2,some (.ref k.li),some (.ref k.co),some (.ref k.ch),t6,t7,t8,t9,t10,some k.m.mf.row,t12,t13,some (.ref k.bx),some (.ref k.ce),t16,some (.ref kp),some (.int (i:Int)),t19,t20],H'⟩) :
  vSs Ab.T (callN Ab.T (d + 6)) b_law_9_0 ⟨[t0,some (.ref k.ln),t2,some (.ref k.li),some (.ref k.co),some (.ref k.ch),t6,t7,t8,t9,t10,some k.m.mf.row,t12,t13,some (.ref k.bx),some (.ref k.ce),t16,some (.ref kp),some (.int (i:Int)),t19,t20],H⟩ Q E:=by
 refine ⟨rfl,draw_spec (i:=6 + i) (T.W.V 0 (by decide)).ln K.l0 K.l1 K.lt (Nat.le_trans (Nat.add_le_add_left hi 6) (by decide)) fun x hx=>⟨by decide,?_⟩⟩
 have hw:x % 2 < 2:=Nat.mod_lt _ (by decide)
 have V:=T.W.V _ hw
 have S:=T.W.S _ hw
 refine ⟨rfl,Lst.mk _ V.bx (At.mk _ (rng_at hw) (Lst.mk _ V.ce (At.mk _ (rng_at hw) (Lst.mk _ V.li (At.mk _ (rng_at hw) ⟨by decide,by decide,by decide,?_⟩)))))⟩
 refine deed_spec (s:=k.s (x % 2)) (de:=x / 2 % 7) (zz:=x / 42) S (V.cont K S) K.n0 (Nat.le_trans (Nat.div_le_self _ _) (Nat.le_of_lt hx)) fun H1 z1 S1 g1=>⟨by decide,by decide,Nat.le_trans (Nat.le_of_lt (Nat.mod_lt (x / 14) (by decide:0 < 3))) (by decide),?_⟩
 refine forN (n:=x / 14 % 3) (fun j (a:TuA)=>⟨[t0,some (.ref k.ln),t2,some (.ref k.li),some (.ref k.co),some (.ref k.ch),t6,t7,t8,some (.int (x:Int)),t10,some k.m.mf.row,t12,t13,some (.ref k.bx),some (.ref k.ce),t16,some (.ref kp),some (.int (i:Int)),some (.int ((x % 2:Nat):Int)),a.t],a.H⟩) (fun _=>TuI k (x % 2) (z (x % 2)) H) ⟨z1,t20,H1⟩ ⟨S1,g1⟩ (fun j a hj I=>?_) fun a I=>turn_end9 T hw I.g I.S fun H' z' K'=>hQ H' z' _ _ _ K'
 have V1:=V.go I.g
 refine ⟨rfl,Lst.mk _ V1.bx (At.mk _ (rng_at hw) (Lst.mk _ V1.ce (At.mk _ (rng_at hw) ?_)))⟩
 exact asked_spec (s:=k.s (x % 2)) (way:=x + j) I.S V1.chk K.n0 fun H3 z3 S3 g3 _=>Fxt.mk ⟨z3,_,_⟩ rfl ⟨S3,I.g.trans g3⟩
end
end Ab
end
section
namespace Ab
open PySem
structure LpA where
 z:Nat->Sst
 t9:Option AV
 t18:Option AV
 t19:Option AV
 t20:Option AV
 H:AH
section
variable {d:Nat} {H:AH} {Q:AV->AH->Prop} {E:KX}
theorem Kt.z0 {k:WK} {kp:Nat} {z y:Nat->Sst} (T:Kt k kp z y H):H[0]?=some k.z0:=(T.W.V 0 (by decide) _ (.tail _ (.tail _ (.tail _ (.tail _ (.tail _ (.tail _ (.head _)))))))).1
theorem stage_d {k:WK} {kp zz:Nat} {z:Nat->Sst} {t0 t2 t6 t7 t8 t9 t10 t16 t18 t19 t20:Option AV} (K:k.Ok) (T:Kt k kp z z H) (hQ:∀ H',H'[0]?=some k.z0->Q (.bool true) H') :
  vSs Ab.T (callN Ab.T (d + 6)) b_law_0_21 ⟨[t0,some (.ref k.ln),t2,some (.ref k.li),some (.ref k.co),some (.ref k.ch),t6,t7,t8,t9,t10,some k.m.mf.row,some (.ref k.m.m),some (.int (zz:Int)),some (.ref k.bx),some (.ref k.ce),t16,some (.ref kp),t18,t19,t20],H⟩ (retK Q) E:=by
 have hn:2 + k.nums.length / 2<=102:=Nat.add_le_add_left (Nat.le_trans (Nat.div_le_self _ _) K.l1) 2
 refine Lst.mk _ (T.W.V 0 (by decide)).ln ?_
 rw [List.length_map]
 refine ⟨by decide,Nat.le_trans hn (by decide),forN (n:=2 + k.nums.length / 2) (fun j (a:LpA)=>⟨[t0,some (.ref k.ln),t2,some (.ref k.li),some (.ref k.co),some (.ref k.ch),t6,t7,t8,a.t9,t10,some k.m.mf.row,some (.ref k.m.m),some (.int (zz:Int)),some (.ref k.bx),some (.ref k.ce),t16,some (.ref kp),a.t18,a.t19,a.t20],a.H⟩) (fun j a=>Kt k kp a.z a.z a.H) ⟨z,t9,t18,t19,t20,H⟩ T
  (fun j a hj I=>turn_spec K I (Nat.le_trans (Nat.le_of_lt hj) (Nat.le_trans hn (by decide))) fun H' z' t9 t19 t20 T'=>Fxt.mk ⟨z',_,_,_,_,_⟩ rfl T') fun b Tb=>⟨by decide,?_⟩⟩
 refine forN (n:=2) (fun j (a:LpA)=>⟨[t0,some (.ref k.ln),t2,some (.ref k.li),some (.ref k.co),some (.ref k.ch),t6,t7,t8,b.t9,t10,some k.m.mf.row,some (.ref k.m.m),some (.int (zz:Int)),some (.ref k.bx),some (.ref k.ce),t16,some (.ref kp),b.t18,a.t19,b.t20],a.H⟩) (fun j a=>Kt k kp a.z a.z a.H) b Tb
  (fun j a hj I=>turn_ended I hj K fun H' z' T'=>Fxt.mk ⟨z',none,none,_,none,_⟩ rfl T') fun a I=>?_
 have M:=(I.W.S 0 (by decide)).bx.man
 exact mth M.hm rfl (mf_row M fun H' u=>.same (same_mf _ (n:=3)) (hQ H' (u.get0 I.z0)))
theorem Wd.kept {k:WK} {z:Nat->Sst} (W:Wd k z H):Kt k H.length z z (H++[.list [rowv k (z 0),rowv k (z 1)]]):=by
 have S0:=W.S 0 (by decide)
 exact ⟨⟨fun w hw=>(W.S w hw).upd0 .app,fun w hw p hp=>⟨getApp (W.V w hw p hp).1,(W.V w hw p hp).2⟩,W.X,W.Y⟩,gLast _ _,Nat.le_trans S0.bx.hN (Nat.le_of_lt (ltOf S0.bx.hh)),
  fun w hw q=>Nat.lt_irrefl _ ((W.S w hw).in q),fun w hw r hr=>Nat.ne_of_lt (ltOf ((W.S w hw).bx.ho r hr)),fun p hp=>Nat.ne_of_lt (ltOf (W.V 0 (by decide) p hp).1)⟩
theorem Wd.same {k:WK} {z:Nat->Sst} {H':AH} (W:Wd k z H) (u:Upd [] H H'):Wd k z H':=⟨fun w hw=>(W.S w hw).upd0 u,fun w hw p hp=>⟨u.get0 (W.V w hw p hp).1,(W.V w hw p hp).2⟩,W.X,W.Y⟩
theorem stage_c {k:WK} {zz:Nat} {z:Nat->Sst} {t0 t2 t6 t7 t8 t9 t10 t16 t17 t18 t19 t20:Option AV} {E:Nat->AH->Prop} (K:k.Ok) (W:Wd k z H) (hQ:∀ H',H'[0]?=some k.z0->Q (.bool true) H') :
  vSs Ab.T (callN Ab.T (d + 6)) b_law_0_16 ⟨[t0,some (.ref k.ln),t2,some (.ref k.li),some (.ref k.co),some (.ref k.ch),t6,t7,t8,t9,t10,some k.m.mf.row,some (.ref k.m.m),some (.int (zz:Int)),some (.ref k.bx),some (.ref k.ce),t16,t17,t18,t19,t20],H⟩ (retK Q) fun c st=>st.on fun _ H=>E c H:=by
 have z2:0 < 2:=by decide
 have o2:1 < 2:=by decide
 have V:=W.V 0 z2
 have C:=V.cont K (W.S 0 z2)
 refine Lst.mk _ C.at' ?_
 rw [len_refs]
 have p1:1 < 2 ^ k.m.n:=Nat.one_lt_two_pow (Nat.ne_of_gt K.n0)
 have e:(2:Int) ^ (k.s 0).k.n - 1=((2 ^ k.m.n - 1:Nat):Int):=by
  rw [Int.ofNat_sub (Nat.le_of_lt p1)]
  exact congrArg (· - 1) (Int.natCast_pow 2 _).symm
 have p2:0 < 2 ^ k.m.n - 1:=Nat.sub_pos_of_lt p1
 refine ⟨⟨by decide,by decide,Nat.le_trans K.n1 (by decide)⟩,by rw [e];exact Int.ofNat_lt.mpr p2,?_⟩
 rw [e]
 refine ⟨rfl,Lst.mk _ V.bx (At.mk _ (rng_at z2) (Lst.mk _ V.ce (At.mk _ (rng_at z2) (Lst.mk _ V.li (At.mk _ (rng_at z2) ⟨by decide,?_⟩)))))⟩
 refine fill_spec (s:=k.s 0) (fa:=1 + zz % (2 ^ k.m.n - 1)) (gap:=none) (zz:=zz / 15) (W.S 0 z2) C (fun _ _ h=>nomatch h) fun H1 z1 S1 g1 _ _=>?_
 have W1:=W.go z2 g1 S1
 have V1:=W1.V 0 z2
 refine ⟨rfl,Lst.mk _ V1.bx (At.mk _ (rng_at z2) (Lst.mk _ V1.ce (At.mk _ (rng_at z2) ?_)))⟩
 refine asked_spec (s:=k.s 0) (way:=zz) (W1.S 0 z2) V1.chk K.n0 fun H2 z3 S2 g2 _=>?_
 have W2:=W1.go z2 g2 S2
 generalize up (up z 0 z1) 0 z3=y at W2
 have V2:=W2.V 0 z2
 refine ⟨rfl,Lst.mk _ V2.bx (At.mk _ (rng_at z2) (Lst.mk _ V2.ce (At.mk _ (rng_at z2) (same_spec (s:=k.s 0) (W2.S 0 z2) fun H3 u3=>?_))))⟩
 have W3:=W2.same u3
 have V3:=W3.V 0 z2
 refine ⟨rfl,Lst.mk _ V3.bx (At.mk _ (rng_at o2) (Lst.mk _ V3.ce (At.mk _ (rng_at o2) (same_spec (s:=k.s 1) (W3.S 1 o2) fun H4 u4=>?_))))⟩
 have W4:=W3.same u4
 refine Lst.mk _ (W4.V 0 z2).bx (At.mk _ (rng_at z2) (mth (W4.S 0 z2).bx.hb rfl (row_spec (s:=k.s 0) (W4.S 0 z2).bx fun H5 u5=>?_)))
 have W5:=W4.same u5
 refine Lst.mk _ (W5.V 0 z2).bx (At.mk _ (rng_at o2) (mth (W5.S 1 o2).bx.hb rfl (row_spec (s:=k.s 1) (W5.S 1 o2).bx fun H6 u6=>?_)))
 exact stage_d K (W5.same u6).kept hQ
end
end Ab
end
section
namespace Ab
open PySem
noncomputable abbrev blank (b:List UInt8):Cell:=List.replicate b.length none
structure Rows (ct:Nat->List UInt8) (G:AH) (j:Nat) (l:Nat->Nat) (H:AH):Prop where
 u:Upd [] G H
 o:H[G.length]?=some (refs j l)
 ho:∀ r,r < j->H[l r]?=some (lst (blank (ct r)))/\G.length < l r
 li:∀ r,r < j->∀ q,q < j->l r=l q->r=q
theorem refs_push {j:Nat} {l:Nat->Nat} {v:Nat}:((List.range j).map fun r=>AV.ref (l r))++[AV.ref v]=(List.range (j+1)).map fun r=>AV.ref (up l j v r):=by
 rw [<-range_push (f:=fun r=>AV.ref (up l j v r)),up_at]
 exact congrArg (·++_) (List.map_congr_left fun r h=>congrArg AV.ref (up_ne (Nat.ne_of_lt (List.mem_range.mp h))).symm)
theorem Rows.next {ct:Nat->List UInt8} {G H:AH} {j:Nat} {l:Nat->Nat} {o:AObj} (J:Rows ct G j l H):Rows ct G (j+1) (up l j (H++[o]).length) ((H++[o]++[lst (blank (ct j))]).set G.length (.list (((List.range j).map fun r=>AV.ref (l r))++[AV.ref (H++[o]).length]))):=by
 have u2:Upd [] H (H++[o]++[lst (blank (ct j))]):=.trans .app .app
 have gl:G.length < (H++[o]).length:=Nat.lt_of_lt_of_le (ltOf J.o) (Upd.app (S:=[]) (G:=[o])).le
 have lt:∀ r,r < j->l r < (H++[o]).length:=fun r hr=>Nat.lt_of_lt_of_le (ltOf (J.ho r hr).1) (Upd.app (S:=[]) (G:=[o])).le
 refine ⟨(J.u.trans u2).fresh (.set (.head _)) (Nat.le_refl _),by rw [refs_push];exact getSet (u2.get0 J.o),fun r hr=>?_,fun r hr q hq e=>?_⟩
 ·rcases Decidable.em (r=j) with rfl|g
  ·exact ⟨idx up_at (getNe (Nat.ne_of_gt gl) (gLast _ _)),Nat.lt_of_lt_of_le gl (Nat.le_of_eq up_at.symm)⟩
  ·obtain ⟨o1,o2⟩:=J.ho r (Nat.lt_of_le_of_ne (Nat.le_of_lt_succ hr) g)
   exact ⟨idx (up_ne g) (getNe (Nat.ne_of_gt o2) (u2.get0 o1)),Nat.lt_of_lt_of_le o2 (Nat.le_of_eq (up_ne g).symm)⟩
 rcases Decidable.em (r=j) with rfl|g
 ·rcases Decidable.em (q=r) with rfl|k
  ·rfl
  ·rw [up_at,up_ne k] at e
   exact absurd e (Nat.ne_of_gt (lt q (Nat.lt_of_le_of_ne (Nat.le_of_lt_succ hq) k)))
 ·rcases Decidable.em (q=j) with rfl|k
  ·rw [up_at,up_ne g] at e
   exact absurd e (Nat.ne_of_lt (lt r (Nat.lt_of_le_of_ne (Nat.le_of_lt_succ hr) g)))
  ·rw [up_ne g,up_ne k] at e
   exact J.li r (Nat.lt_of_le_of_ne (Nat.le_of_lt_succ hr) g) q (Nat.lt_of_le_of_ne (Nat.le_of_lt_succ hq) k) e
structure Tabs (ct:Nat->List UInt8) (n:Nat) (G:AH) (j:Nat) (cl:Nat->Nat) (l:Nat->Nat->Nat) (H:AH):Prop where
 u:Upd [] G H
 o:H[G.length]?=some (refs j cl)
 hc:∀ w,w < j->H[cl w]?=some (refs n (l w))/\G.length < cl w
 ho:∀ w,w < j->∀ r,r < n->H[l w r]?=some (lst (blank (ct r)))/\cl w < l w r
 li:∀ w,w < j->∀ r,r < n->∀ q,q < n->l w r=l w q->r=q
 lt:∀ w,w < j->∀ v,v < w->cl v < cl w/\∀ r,r < n->l v r < cl w
structure TbA where
 cl:Nat->Nat
 l:Nat->Nat->Nat
 t:Option AV
 H:AH
structure RoA where
 l:Nat->Nat
 t:Option AV
 H:AH
theorem Tabs.next {ct:Nat->List UInt8} {n:Nat} {G H H':AH} {j:Nat} {cl l':Nat->Nat} {l:Nat->Nat->Nat} (J:Tabs ct n G j cl l H) (R:Rows ct H n l' H'):Tabs ct n G (j+1) (up cl j H.length) (up l j l') (H'.set G.length (.list (((List.range j).map fun r=>AV.ref (cl r))++[AV.ref H.length]))):=by
 have gl:=ltOf J.o
 have st:=fun {x:Nat} {o:AObj} (h:G.length < x) (e:H'[x]?=some o)=>getNe (o':=.list (((List.range j).map fun r=>AV.ref (cl r))++[AV.ref H.length])) (Nat.ne_of_gt h) e
 have lj:∀ {w},w < j+1->w≠j->w < j:=fun h g=>Nat.lt_of_le_of_ne (Nat.le_of_lt_succ h) g
 refine ⟨(J.u.trans R.u).fresh (.set (.head _)) (Nat.le_refl _),by rw [refs_push];exact getSet (R.u.get0 J.o),fun w hw=>?_,fun w hw=>?_,fun w hw=>?_,fun w hw v hv=>?_⟩
 ·rcases Decidable.em (w=j) with rfl|g
  ·rw [up_at,up_at]
   exact ⟨st gl R.o,gl⟩
  ·rw [up_ne g,up_ne g]
   exact ⟨st (J.hc w (lj hw g)).2 (R.u.get0 (J.hc w (lj hw g)).1),(J.hc w (lj hw g)).2⟩
 ·rcases Decidable.em (w=j) with rfl|g
  ·rw [up_at,up_at]
   exact fun r hr=>⟨st (Nat.lt_trans gl (R.ho r hr).2) (R.ho r hr).1,(R.ho r hr).2⟩
  ·rw [up_ne g,up_ne g]
   exact fun r hr=>⟨st (Nat.lt_trans (J.hc w (lj hw g)).2 (J.ho w (lj hw g) r hr).2) (R.u.get0 (J.ho w (lj hw g) r hr).1),(J.ho w (lj hw g) r hr).2⟩
 ·rcases Decidable.em (w=j) with rfl|g
  ·rw [up_at]
   exact R.li
  ·rw [up_ne g]
   exact J.li w (lj hw g)
 ·have vj:v < j:=Nat.lt_of_lt_of_le hv (Nat.le_of_lt_succ hw)
  rw [up_ne (Nat.ne_of_lt vj),up_ne (Nat.ne_of_lt vj)]
  rcases Decidable.em (w=j) with rfl|g
  ·rw [up_at]
   exact ⟨ltOf (J.hc v vj).1,fun r hr=>ltOf (J.ho v vj r hr).1⟩
  ·rw [up_ne g]
   exact J.lt w (lj hw g) v hv
section
variable {d:Nat} {H:AH} {Q:AV->AH->Prop} {E:KX}
theorem tabs_spec {n co li:Nat} {ct:Nat->List UInt8} {lim:Nat->Nat} {t0 t1 t2 t5 t6 t7 t8 t9 t10 t11 t12 t13 t14 t15 t16 t17 t18 t19 t20:Option AV} {Q:Fl->St->Prop} (n1:n<=10) (hc:∀ r,r < n->(ct r).length<=200) (gl:H[li]?=some (.list ((List.range 2).map fun w=>.int (lim w:Int)))) (gc:H[co]?=some (.list ((List.range n).map fun r=>.bytes (ct r))))
  (hQ:∀ H' cl l,Tabs ct n H 2 cl l H'->vSs T (callN T d) b_law_0_16 ⟨[t0,t1,t2,some (.ref li),some (.ref co),t5,t6,t7,t8,t9,t10,t11,t12,t13,t14,some (.ref H.length),t16,t17,t18,t19,t20],H'⟩ Q E) :
  vSs T (callN T d) b_law_0_15 ⟨[t0,t1,t2,some (.ref li),some (.ref co),t5,t6,t7,t8,t9,t10,t11,t12,t13,t14,t15,t16,t17,t18,t19,t20],H⟩ Q E:=by
 refine Lst.mk _ gl (forL (fun j (a:TbA)=>⟨[a.t,some (.ref co)],a.H⟩) (fun j a=>Tabs ct n H j a.cl a.l a.H) ⟨fun _=>0,fun _ _=>0,none,H++[AObj.list []]⟩ ⟨.app,getLast',fun _ h=>absurd h (Nat.not_lt_zero _),fun _ h=>absurd h (Nat.not_lt_zero _),fun _ h=>absurd h (Nat.not_lt_zero _),fun _ h=>absurd h (Nat.not_lt_zero _)⟩ (fun j a J=>J.u.get0 gl) (fun j w a e J=>?_) fun a J=>?_)
 ·have jl:j < 2:=(List.getElem?_eq_some_iff.mp e).1
  refine Lst.mk _ (J.u.get0 gc) (forL (fun i (b:RoA)=>⟨[b.t],b.H⟩) (fun i b=>Rows ct a.H i b.l b.H) ⟨fun _=>0,none,a.H++[AObj.list []]⟩ ⟨.app,getLast',fun _ h=>absurd h (Nat.not_lt_zero _),fun _ h=>absurd h (Nat.not_lt_zero _)⟩ (fun i b R=>(J.u.trans R.u).get0 gc) (fun i r b e2 R=>?_) fun b R=>?_)
  ·have hr:r < n:=List.mem_range.mp (List.mem_of_getElem? e2)
   have ei:r=i:=by
    obtain ⟨h,e3⟩:=List.getElem?_eq_some_iff.mp e2
    rw [List.getElem_range] at e3
    exact e3.symm
   subst ei
   have e4:AObj.list (List.replicate (ct r).length (AV.int (-1)))=lst (blank (ct r)):=by rw [lst,List.map_replicate,List.map_replicate];rfl
   refine Lst.mk _ (gLast _ _) ⟨Nat.le_trans (hc r hr) (by decide),?_⟩
   rw [show (-((1:Nat):Int))=-1 from rfl,e4]
   exact Lst.mk _ (getApp (getApp R.o)) ⟨Nat.lt_of_le_of_lt (Nat.le_trans (Nat.le_of_eq len_refs) (Nat.le_trans (Nat.le_of_lt hr) n1)) (by decide),Fxt.mk ⟨_,_,_⟩ rfl R.next⟩
  ·rw [List.length_range] at R
   exact Lst.mk _ (R.u.get0 J.o) ⟨Nat.lt_of_le_of_lt (Nat.le_trans (Nat.le_of_eq len_refs) (Nat.le_of_lt jl)) (by decide),Fxt.mk ⟨_,_,_,_⟩ rfl (J.next R)⟩
 ·exact hQ _ _ _ J
end
end Ab
end
section
namespace Ab
open PySem
def two {α:Type} (x y:α) (w:Nat):α:=Nat.casesOn w x fun _=>y
theorem two_of {α:Type} {P:Nat->α->Prop} {x y:α} (h0:P 0 x) (h1:P 1 y):∀ w,w < 2->P w (two x y w)
 | 0,_=>h0
 | 1,_=>h1
theorem mk_side {s:SC} {h l:Nat->Nat} {ct:Nat->List UInt8} {H:AH} (M:Man s.k H) (hb:H[s.b]?=some (box s.k.m s.lim s.hl)) (hh:H[s.hl]?=some (refs s.k.n h)) (ho:∀ r,r < s.k.n->H[h r]?=some (.list [])/\s.hl < h r/\h r < s.cl) (hc:H[s.cl]?=some (refs s.k.n l))
  (lo:∀ r,r < s.k.n->H[l r]?=some (lst (blank (ct r)))/\s.cl < l r) (li:∀ r,r < s.k.n->∀ q,q < s.k.n->l r=l q->r=q) (hN:s.k.N<=s.hl) (hlc:s.hl < s.cl) (sz:∀ r,r < s.k.n->(ct r).length=(s.k.p r).2.size) (l1:s.lim<=1000/\0 < s.lim):Side s ⟨h,l,fun r=>blank (ct r)⟩ H :=
 have bl:∀ r,(blank (ct r)).length=(ct r).length:=fun r=>List.length_replicate
 ⟨⟨M,hb,hh,fun r hr=>by rw [pcs,str_none];exact (ho r hr).1,fun r hr=>((bl r).trans (sz r hr)).symm,l1.1,l1.2,hN,fun r hr=>Nat.ne_of_gt (ho r hr).2.1⟩,
  ⟨hc,fun r hr=>(lo r hr).1,M.le,fun r hr=>(bl r).symm▸(sz r hr).symm▸(M.rk hr).size⟩,Nat.ne_of_gt hlc,fun r hr=>Nat.ne_of_gt (Nat.lt_trans hlc (lo r hr).2),fun r hr=>Nat.ne_of_gt (lo r hr).2,li,fun r hr=>Nat.ne_of_lt (ho r hr).2.2,fun r hr q hq=>Nat.ne_of_lt (Nat.lt_trans (ho r hr).2.2 (lo q hq).2),
  Nat.le_trans hN (Nat.le_of_lt hlc),fun r hr=>Nat.le_trans hN (Nat.le_of_lt (Nat.lt_trans hlc (lo r hr).2))⟩
theorem eq01:∀ {v w:Nat},v < 2->w < 2->(v=0↔w=0)->v=w
 | 0,_,_,_,h=>(h.mp rfl).symm
 | 1,0,_,_,h=>h.mpr rfl
 | 1,1,_,_,_=>rfl
structure Ord (k:WK) (h:Nat->Nat->Nat) (l:Nat->Nat->Nat) (A B:Nat) (a b c:Nat):Prop where
 h0:a < k.hl 0/\k.hl 0 < A/\∀ r,r < k.m.n->h 0 r < A
 h1:A<=k.hl 1/\k.hl 1 < b/\∀ r,r < k.m.n->A<=h 1 r/\h 1 r < b
 c0:c < k.cl 0/\b < c
 l0:∀ r,r < k.m.n->k.cl 0 < l 0 r/\l 0 r < k.cl 1
 l1:∀ r,r < k.m.n->k.cl 1 < l 1 r
 c1:k.cl 0 < k.cl 1
 ab:a < A/\A<=b
section
variable {k:WK} {h l:Nat->Nat->Nat} {A B a b c:Nat} {ct:Nat->Cell}
theorem Ord.feet (O:Ord k h l A B a b c):∀ w,w < 2->∀ x,Foot (k.s w) ⟨h w,l w,ct⟩ x->((a < x/\x < b)\/c < x)/\((x < A\/(k.cl 0<=x/\x < k.cl 1))↔w=0)
 | 0,_,x,.inl e=>e▸⟨.inl ⟨O.h0.1,Nat.lt_of_lt_of_le O.h0.2.1 O.ab.2⟩,fun _=>rfl,fun _=>.inl O.h0.2.1⟩
 | 0,_,x,.inr (.inl e)=>e▸⟨.inr O.c0.1,fun _=>rfl,fun _=>.inr ⟨Nat.le_refl _,O.c1⟩⟩
 | 0,_,x,.inr (.inr ⟨r,hr,e⟩)=>e▸⟨.inr (Nat.lt_trans O.c0.1 (O.l0 r hr).1),fun _=>rfl,fun _=>.inr ⟨Nat.le_of_lt (O.l0 r hr).1,(O.l0 r hr).2⟩⟩
 | 1,_,x,.inl e=>e▸⟨.inl ⟨Nat.lt_of_lt_of_le O.ab.1 O.h1.1,O.h1.2.1⟩,(fun q=>q.elim (fun q=>absurd O.h1.1 (Nat.not_le.mpr q)) fun q=>absurd q.1 (Nat.not_le.mpr (Nat.lt_trans O.h1.2.1 (Nat.lt_trans O.c0.2 O.c0.1)))),fun q=>nomatch q⟩
 | 1,_,x,.inr (.inl e)=>e▸⟨.inr (Nat.lt_trans O.c0.1 O.c1),(fun q=>q.elim (fun q=>absurd q (Nat.lt_asymm (Nat.lt_of_le_of_lt O.ab.2 (Nat.lt_trans O.c0.2 (Nat.lt_trans O.c0.1 O.c1))))) fun q=>absurd q.2 (Nat.lt_irrefl _)),fun q=>nomatch q⟩
 | 1,_,x,.inr (.inr ⟨r,hr,e⟩)=>e▸⟨.inr (Nat.lt_trans O.c0.1 (Nat.lt_trans O.c1 (O.l1 r hr))),(fun q=>q.elim (fun q=>absurd q (Nat.lt_asymm (Nat.lt_of_le_of_lt O.ab.2 (Nat.lt_trans O.c0.2 (Nat.lt_trans O.c0.1 (Nat.lt_trans O.c1 (O.l1 r hr))))))) fun q=>absurd q.2 (Nat.lt_asymm (O.l1 r hr))),fun q=>nomatch q⟩
theorem Ord.hz (O:Ord k h l A B a b c):∀ w,w < 2->∀ r,r < k.m.n->((h w r < A\/(k.cl 0<=h w r/\h w r < k.cl 1))↔w=0)
 | 0,_,r,hr=>⟨fun _=>rfl,fun _=>.inl (O.h0.2.2 r hr)⟩
 | 1,_,r,hr=>⟨fun q=>q.elim (fun q=>absurd (O.h1.2.2 r hr).1 (Nat.not_le.mpr q)) fun q=>absurd q.1 (Nat.not_le.mpr (Nat.lt_trans (O.h1.2.2 r hr).2 (Nat.lt_trans O.c0.2 O.c0.1))),fun q=>nomatch q⟩
theorem Ord.wd {H:AH} (O:Ord k h l A B a b c) (S:∀ w,w < 2->Side (k.s w) ⟨h w,l w,ct⟩ H) (e:∀ p∈k.L,H[p.1]?=some p.2/\(p.1<=a\/p.1=b\/p.1=c)):Wd k (fun w=>⟨h w,l w,ct⟩) H:=by
 refine ⟨S,fun w hw p hp=>⟨(e p hp).1,fun q=>?_⟩,fun v hv w hw n x q1 q2=>n (eq01 hv hw ((O.feet v hv x q1).2.symm.trans (O.feet w hw x q2).2)),fun v hv w hw n r hr q=>n (eq01 hv hw ((O.feet v hv _ q).2.symm.trans (O.hz w hw r hr)))⟩
 rcases (O.feet w hw _ q).1 with f|f
 ·rcases (e p hp).2 with g|g|g
  ·exact Nat.not_lt.mpr g f.1
  ·exact Nat.lt_irrefl _ (g▸f.2)
  ·exact Nat.lt_asymm O.c0.2 (g▸f.2)
 ·rcases (e p hp).2 with g|g|g
  ·exact Nat.not_lt.mpr g (Nat.lt_of_lt_of_le O.ab.1 (Nat.le_trans O.ab.2 (Nat.le_of_lt (Nat.lt_trans O.c0.2 f))))
  ·exact Nat.lt_asymm O.c0.2 (g▸f)
  ·exact Nat.lt_irrefl _ (g▸f)
end
end Ab
end
section
namespace Ab
open PySem
section
variable {d:Nat} {H:AH} {Q:AV->AH->Prop}
theorem Made.later {k:MC} {lim b hl n:Nat} {h:Nat->Nat} {H H1 H':AH} (D:Made k lim b hl n h H H1) (u:Upd [] H1 H'):Made k lim b hl n h H H':=⟨D.u.trans u,u.get0 D.hb,u.get0 D.hh,fun r hr=>⟨u.get0 (D.ho r hr).1,(D.ho r hr).2⟩⟩
theorem stage_b {k:WK} {zz:Nat} {t0 t2 t6 t7 t8 t9 t10:Option AV} {E:Nat->AH->Prop} (K:k.Ok) (M:Man k.m H) (hN:k.m.N<=H.length) (l1:∀ w,w < 2->k.lim w<=1000/\0 < k.lim w) (gl:H[k.li]?=some (.list ((List.range 2).map fun w=>.int (k.lim w:Int)))) (gc:H[k.co]?=some (.list ((List.range k.m.n).map fun r=>.bytes (k.ct r))))
  (gh:H[k.ch]?=some (.list ((List.range k.m.n).map fun r=>.int ((k.m.p r).2.check:Int)))) (gn:H[k.ln]?=some (natL k.nums)) (g0:H[0]?=some k.z0) (hQ:∀ H',H'[0]?=some k.z0->Q (.bool true) H') :
  vSs Ab.T (callN Ab.T (d + 6)) b_law_0_14 ⟨[t0,some (.ref k.ln),t2,some (.ref k.li),some (.ref k.co),some (.ref k.ch),t6,t7,t8,t9,t10,some k.m.mf.row,some (.ref k.m.m),some (.int (zz:Int)),none,none,none,none,none,none,none],H⟩ (retK Q) fun c st=>st.on fun _ H=>E c H:=by
 have z2:0 < 2:=by decide
 have o2:1 < 2:=by decide
 refine ⟨rfl,Lst.mk _ gl (At.mk _ (rng_at z2) (box_init M (l1 0 z2).2 fun H1 hl0 h0 lt0 D0=>⟨rfl,?_⟩))⟩
 refine ⟨rfl,Lst.mk _ (D0.u.get0 gl) (At.mk _ (rng_at o2) (box_init (M.upd0 D0.u) (l1 1 o2).2 fun H2 hl1 h1 lt1 D1=>⟨rfl,?_⟩))⟩
 have u2:=D0.u.trans D1.u
 have u3:Upd [] H (H2++[AObj.list [.ref H.length,.ref H1.length]]):=u2.trans .app
 refine tabs_spec K.n1 (fun r hr=>K.sz r hr▸(M.rk hr).size) (u3.get0 gl) (u3.get0 gc) fun H4 cl l J=>?_
 have u4:=u3.trans J.u
 have lA:H.length < H1.length:=Nat.lt_trans lt0 (ltOf D0.hh)
 have lB:H1.length < H2.length:=Nat.lt_trans lt1 (ltOf D1.hh)
 have lC:H2.length < (H2++[AObj.list [.ref H.length,.ref H1.length]]).length:=List.length_append▸Nat.lt_succ_self _
 have O:Ord ⟨k.m,two H.length H1.length,two hl0 hl1,k.lim,cl,k.ct,H2.length,(H2++[AObj.list [.ref H.length,.ref H1.length]]).length,k.li,k.co,k.ch,k.ln,k.nums,k.z0⟩ (two h0 h1) l H1.length H2.length H.length H2.length (H2++[AObj.list [.ref H.length,.ref H1.length]]).length :=
  ⟨⟨lt0,ltOf D0.hh,fun r hr=>ltOf (D0.ho r hr).1⟩,⟨Nat.le_of_lt lt1,ltOf D1.hh,fun r hr=>⟨Nat.le_of_lt (Nat.lt_trans lt1 (D1.ho r hr).2),ltOf (D1.ho r hr).1⟩⟩,⟨(J.hc 0 z2).2,lC⟩,fun r hr=>⟨(J.ho 0 z2 r hr).2,(J.lt 1 o2 0 Nat.one_pos).2 r hr⟩,fun r hr=>(J.ho 1 o2 r hr).2,(J.lt 1 o2 0 Nat.one_pos).1,⟨lA,Nat.le_of_lt lB⟩⟩
 have D0':=D0.later (D1.u.trans ((Upd.app (G:=[AObj.list [.ref H.length,.ref H1.length]])).trans J.u))
 have D1':=D1.later ((Upd.app (G:=[AObj.list [.ref H.length,.ref H1.length]])).trans J.u)
 have M4:=M.upd0 u4
 have h0c:∀ {x},x < H1.length->x < cl 0:=fun h=>Nat.lt_trans h (Nat.lt_trans lB (Nat.lt_trans lC (J.hc 0 z2).2))
 have h1c:∀ {x},x < H2.length->x < cl 1:=fun h=>Nat.lt_trans h (Nat.lt_trans lC (J.hc 1 o2).2)
 refine stage_c (k:=⟨k.m,two H.length H1.length,two hl0 hl1,k.lim,cl,k.ct,H2.length,(H2++[AObj.list [.ref H.length,.ref H1.length]]).length,k.li,k.co,k.ch,k.ln,k.nums,k.z0⟩) ⟨K.sz,K.ck,K.n1,K.n0,K.c0,K.l1,K.l0,K.lt⟩
  (O.wd (fun
   | 0,_=>mk_side (s:=WK.s ⟨k.m,two H.length H1.length,two hl0 hl1,k.lim,cl,k.ct,_,_,k.li,k.co,k.ch,k.ln,k.nums,k.z0⟩ 0) M4 D0'.hb D0'.hh (fun r hr=>⟨(D0'.ho r hr).1,(D0.ho r hr).2,h0c (ltOf (D0.ho r hr).1)⟩) (J.hc 0 z2).1 (J.ho 0 z2) (J.li 0 z2) (Nat.le_trans hN (Nat.le_of_lt lt0)) (h0c (ltOf D0.hh)) K.sz (l1 0 z2)
   | 1,_=>mk_side (s:=WK.s ⟨k.m,two H.length H1.length,two hl0 hl1,k.lim,cl,k.ct,_,_,k.li,k.co,k.ch,k.ln,k.nums,k.z0⟩ 1) M4 D1'.hb D1'.hh (fun r hr=>⟨(D1'.ho r hr).1,(D1.ho r hr).2,h1c (ltOf (D1.ho r hr).1)⟩) (J.hc 1 o2).1 (J.ho 1 o2) (J.li 1 o2) (Nat.le_trans hN (Nat.le_trans (Nat.le_of_lt lA) (Nat.le_of_lt lt1))) (h1c (ltOf D1.hh)) K.sz (l1 1 o2)) ?_) hQ
 have old:=fun {x:Nat} {o:AObj} (e:H[x]?=some o)=>(⟨u4.get0 e,.inl (Nat.le_of_lt (ltOf e))⟩:H4[x]?=some o/\(x<=H.length\/x=H2.length\/x=(H2++[AObj.list [.ref H.length,.ref H1.length]]).length))
 exact List.forall_mem_cons.mpr ⟨⟨J.u.get0 (gLast _ _),.inr (.inl rfl)⟩,List.forall_mem_cons.mpr ⟨⟨J.o,.inr (.inr rfl)⟩,List.forall_mem_cons.mpr ⟨old gl,List.forall_mem_cons.mpr ⟨old gc,List.forall_mem_cons.mpr ⟨old gh,List.forall_mem_cons.mpr ⟨old gn,List.forall_mem_cons.mpr ⟨old g0,fun _ h=>nomatch h⟩⟩⟩⟩⟩⟩⟩
end
end Ab
end
section
namespace Ab
open PySem
noncomputable def con (x n:Nat):List UInt8:=(List.range n).map fun j=>UInt8.ofNat ((x / 30 + 37 * j) % 256)
theorem con_len {x n:Nat}:(con x n).length=n:=by rw [con,List.length_map,List.length_range]
theorem con_ints {x n:Nat}:((List.range n).map fun j=>AV.int (((x / 30 + 37 * j) % 256:Nat):Int))=octInts (con x n):=by
 rw [octInts,con,List.map_map]
 exact List.map_congr_left fun j _=>congrArg (fun k:Nat=>AV.int (k:Int)) (ofNat_toNat (Nat.mod_lt _ (by decide))).symm
noncomputable def ri (p:Nat×List UInt8):RI:=⟨p.1,p.2.length,chk p.2,[97],[98,99]⟩
structure PcA where
 p:Nat->Nat×List UInt8
 as:Nat->Nat
 t8:Option AV
 t9:Option AV
 t10:Option AV
 H:AH
structure PcI (co ch i_ ro:Nat) (G:AH) (j:Nat) (a:PcA):Prop where
 u:Upd [co,ch,i_,ro] G a.H
 gc:a.H[co]?=some (.list ((List.range j).map fun r=>.bytes (a.p r).2))
 gk:a.H[ch]?=some (.list ((List.range j).map fun r=>.int ((ri (a.p r)).check:Int)))
 gi:a.H[i_]?=some (refs j a.as)
 gr:a.H[ro]?=some (.list ((List.range j).map fun r=>.tup (ri (a.p r)).vals))
 ho:∀ r,r < j->a.H[a.as r]?=some (ri (a.p r)).obj/\G.length<=a.as r
 hp:∀ r,r < j->(a.p r).1 < 12/\(a.p r).2.length<=30
 h0:0 < j->0 < (a.p 0).2.length
structure Four (co ch i_ ro:Nat) (G:AH):Prop where
 h1:co < ch
 h2:ch < i_
 h3:i_ < ro
 h4:ro < G.length
theorem up_all {α:Type} {P:α->Prop} {f:Nat->α} {j:Nat} {v:α} (h1:P v) (h2:∀ r,r < j->P (f r)) (r:Nat) (hr:r < j+1):P (up f j v r):=by
 rcases Decidable.em (r=j) with rfl|g
 ·rw [up_at]
  exact h1
 ·rw [up_ne g]
  exact h2 r (Nat.lt_of_le_of_ne (Nat.le_of_lt_succ hr) g)
theorem map_up {α:Type} {f:Nat->α} {j:Nat} {v:α} {g:α->AV}:((List.range j).map fun r=>g (f r))++[g v]=(List.range (j+1)).map fun r=>g (up f j v r):=by
 rw [<-range_push (f:=fun r=>g (up f j v r)),up_at]
 exact congrArg (·++_) (List.map_congr_left fun r h=>congrArg g (up_ne (Nat.ne_of_lt (List.mem_range.mp h))).symm)
section
variable {co ch i_ ro:Nat} {G:AH} {j:Nat} {a:PcA}
theorem PcI.next (F:Four co ch i_ ro G) (I:PcI co ch i_ ro G j a) {H1:AH} (u1:Upd [] a.H H1) {q:Nat×List UInt8} (h1:q.1 < 12) (h2:q.2.length<=30) (h0:j=0->0 < q.2.length) {t8 t9 t10:Option AV} {l1 l2 l3 l4:List AV} (e1:l1=(List.range j).map fun r=>.bytes (a.p r).2) (e2:l2=(List.range j).map fun r=>.int ((ri (a.p r)).check:Int))
  (e3:l3=(List.range j).map fun r=>.ref (a.as r)) (e4:l4=(List.range j).map fun r=>.tup (ri (a.p r)).vals):PcI co ch i_ ro G (j+1) ⟨up a.p j q,up a.as j H1.length,t8,t9,t10,((((H1.set co (.list (l1++[.bytes q.2]))).set ch (.list (l2++[.int ((ri q).check:Int)])))++[(ri q).obj]).set i_ (.list (l3++[.ref H1.length]))).set ro (.list (l4++[.tup (ri q).vals]))⟩:=by
 subst e1 e2 e3 e4
 have n12:=Nat.ne_of_lt F.h1
 have n13:=Nat.ne_of_lt (Nat.lt_trans F.h1 F.h2)
 have n14:=Nat.ne_of_lt (Nat.lt_trans F.h1 (Nat.lt_trans F.h2 F.h3))
 have n23:=Nat.ne_of_lt F.h2
 have n24:=Nat.ne_of_lt (Nat.lt_trans F.h2 F.h3)
 have n34:=Nat.ne_of_lt F.h3
 have lG:G.length<=H1.length:=Nat.le_trans I.u.le u1.le
 have big:∀ {x},G.length<=x->x≠ro/\x≠i_/\x≠ch/\x≠co:=fun h=>by
  have a4:=Nat.lt_of_lt_of_le F.h4 h
  have a3:=Nat.lt_trans F.h3 a4
  have a2:=Nat.lt_trans F.h2 a3
  exact ⟨Nat.ne_of_gt a4,Nat.ne_of_gt a3,Nat.ne_of_gt a2,Nat.ne_of_gt (Nat.lt_trans F.h1 a2)⟩
 refine ⟨?_,?_,?_,?_,?_,fun r hr=>?_,fun r hr=>?_,fun _=>?_⟩
 ·exact (((((I.u.trans (u1.nil.trans (.set (.head _)))).trans (.set (.tail _ (.head _)))).trans .app).trans (.set (.tail _ (.tail _ (.head _))))).trans (.set (.tail _ (.tail _ (.tail _ (.head _))))))
 ·rw [map_up (g:=fun p:Nat×List UInt8=>AV.bytes p.2)]
  exact getNe n14 (getNe n13 (getApp (getNe n12 (getSet (u1.get0 I.gc)))))
 ·rw [map_up (g:=fun p:Nat×List UInt8=>AV.int ((ri p).check:Int))]
  exact getNe n24 (getNe n23 (getApp (getSet (getNe n12.symm (u1.get0 I.gk)))))
 ·rw [map_up (g:=AV.ref)]
  exact getNe n34 (getSet (getApp (getNe n23.symm (getNe n13.symm (u1.get0 I.gi)))))
 ·rw [map_up (g:=fun p:Nat×List UInt8=>AV.tup (ri p).vals)]
  exact getSet (getNe n34.symm (getApp (getNe n24.symm (getNe n14.symm (u1.get0 I.gr)))))
 ·rcases Decidable.em (r=j) with rfl|g
  ·obtain ⟨b1,b2,b3,b4⟩:=big lG
   refine ⟨idx up_at ((getNe b1 (getNe b2 (idx ?_ (gLast _ _)))).trans (congrArg (fun p=>some (ri p).obj) up_at.symm)),Nat.le_trans lG (Nat.le_of_eq up_at.symm)⟩
   rw [List.length_set,List.length_set]
  ·obtain ⟨o1,o2⟩:=I.ho r (Nat.lt_of_le_of_ne (Nat.le_of_lt_succ hr) g)
   obtain ⟨b1,b2,b3,b4⟩:=big o2
   exact ⟨idx (up_ne g) ((getNe b1 (getNe b2 (getApp (getNe b3 (getNe b4 (u1.get0 o1)))))).trans (congrArg (fun p=>some (ri p).obj) (up_ne g).symm)),Nat.le_trans o2 (Nat.le_of_eq (up_ne g).symm)⟩
 ·exact up_all (P:=fun p:Nat×List UInt8=>p.1 < 12/\p.2.length<=30) ⟨h1,h2⟩ I.hp r hr
 ·rcases Decidable.em (0=j) with rfl|g
  ·exact Nat.lt_of_lt_of_eq (h0 rfl) (congrArg (fun p:Nat×List UInt8=>p.2.length) (up_at (f:=a.p) (r:=0) (v:=q)).symm)
  ·exact Nat.lt_of_lt_of_eq (I.h0 (Nat.pos_of_ne_zero (Ne.symm g))) (congrArg (fun p:Nat×List UInt8=>p.2.length) (up_ne (f:=a.p) (r:=j) (x:=0) (v:=q) g).symm)
end
end Ab
end
section
namespace Ab
open PySem
theorem at_end {α:Type} {A:List α} {x:α} {j:Nat} (h:A.length=j):(A++[x])[j]?=some x:=h▸gLast A x
section
variable {d:Nat} {H:AH} {Q:Fl->St->Prop} {E:KX}
theorem piece_spec {co ch i_ ro j x n:Nat} {G:AH} {a:PcA} {t0 t1 t2 t3 t11 t12 t13 t14 t15 t16 t17 t18 t19 t20:Option AV} (F:Four co ch i_ ro G) (I:PcI co ch i_ ro G j a) (hj:j<=10) (hn:n<=30) (n0:j=0->0 < n) (hx:x < 10000000)
  (hQ:∀ p as H',PcI co ch i_ ro G (j+1) ⟨p,as,some (.int (j:Int)),some (.int (x:Int)),some (.int (n:Int)),H'⟩->Q .next ⟨[t0,t1,t2,t3,some (.ref co),some (.ref ch),some (.ref i_),some (.ref ro),some (.int (j:Int)),some (.int (x:Int)),some (.int (n:Int)),t11,t12,t13,t14,t15,t16,t17,t18,t19,t20],H'⟩) :
  vSs T (callN T (d + 2)) b_law_3_3 ⟨[t0,t1,t2,t3,some (.ref co),some (.ref ch),some (.ref i_),some (.ref ro),some (.int (j:Int)),some (.int (x:Int)),some (.int (n:Int)),t11,t12,t13,t14,t15,t16,t17,t18,t19,t20],a.H⟩ Q E:=by
 have gc:=I.gc
 have gk:=I.gk
 have gi:=I.gi
 have gr:=I.gr
 have lt:∀ {f:Nat->AV},((List.range j).map f).length < LIM:=Nat.lt_of_le_of_lt (Nat.le_trans (Nat.le_of_eq len_refs) hj) (by decide)
 generalize e1:((List.range j).map fun r=>AV.bytes (a.p r).2)=l1 at gc
 generalize e2:((List.range j).map fun r=>AV.int ((ri (a.p r)).check:Int))=l2 at gk
 generalize e4:((List.range j).map fun r=>AV.tup (ri (a.p r)).vals)=l4 at gr
 have m1:l1.length=j:=e1▸len_refs
 have m2:l2.length=j:=e2▸len_refs
 have m4:l4.length=j:=e4▸len_refs
 have lm:∀ {L:List AV},L.length=j->L.length < LIM:=fun h=>Nat.lt_of_le_of_lt (Nat.le_trans (Nat.le_of_eq h) hj) (by decide)
 refine ⟨Lst.mk _ gc trivial,Nat.le_trans hn (by decide),forN (n:=n) (fun i (b:Option AV×AH)=>⟨[b.1,some (.int (x:Int))],b.2⟩) (fun i b=>RowsI a.H ((List.range i).map fun j=>AV.int (((x / 30 + 37 * j) % 256:Nat):Int)) b) (none,a.H++[AObj.list []]) ⟨.app,getLast'⟩ (fun i b hi J=>?_) fun b J=>?_⟩
 ·exact ⟨by decide,by decide,bigN (Nat.lt_trans hi (Nat.lt_of_le_of_lt hn (by decide))),by decide,Lst.mk _ J.o ⟨Nat.lt_of_le_of_lt (Nat.le_trans (Nat.le_of_eq len_refs) (Nat.le_trans (Nat.le_of_lt hi) hn)) (by decide),Fxt.mk (_,_) rfl (J.push .refl (range_push (f:=fun j=>AV.int (((x / 30 + 37 * j) % 256:Nat):Int))))⟩⟩
 have n12:=Nat.ne_of_lt F.h1
 have n13:=Nat.ne_of_lt (Nat.lt_trans F.h1 F.h2)
 have n14:=Nat.ne_of_lt (Nat.lt_trans F.h1 (Nat.lt_trans F.h2 F.h3))
 have n23:=Nat.ne_of_lt F.h2
 have n24:=Nat.ne_of_lt (Nat.lt_trans F.h2 F.h3)
 have n34:=Nat.ne_of_lt F.h3
 refine .inl (Lst.mk _ J.o ⟨con x n,con_ints,Lst.mk _ (J.u.get0 gc) ⟨lm m1,?_⟩⟩)
 have hb:(con x n).length=n:=con_len
 have u1:=J.u
 generalize con x n=c at *
 subst hb
 have k2:=fun {x:Nat} {o o':AObj} (k:x≠co) (e:a.H[x]?=some o)=>getNe (o':=o') k (u1.get0 e)
 have kk:=k2 (o':=.list (l1++[.bytes c])) n12.symm gk
 refine ⟨Lst.mk _ kk trivial,rfl,Lst.mk _ (getSet (u1.get0 gc)) (At.mk _ (at_end m1) (sum_b (Nat.le_trans hn (by decide)) (Lst.mk _ kk ⟨lm m2,?_⟩)))⟩
 have ki:=getNe (o':=.list (l2++[.int (chk c:Int)])) n23.symm (k2 (o':=.list (l1++[.bytes c])) n13.symm gi)
 refine ⟨Lst.mk _ ki trivial,rfl,by decide,Lst.mk _ (getSet kk) (At.mk _ (at_end m2) ?_)⟩
 refine ri_init (ri (x % 12,c)) ⟨rfl,Lst.mk _ (getApp ki) ⟨lt,?_⟩⟩
 have kr:=getNe (o':=.list ((List.range j).map (fun r=>.ref (a.as r))++[.ref ((b.2.set co (.list (l1++[.bytes c]))).set ch (.list (l2++[.int (chk c:Int)]))).length])) n34.symm (getApp (G':=[(ri (x % 12,c)).obj]) (getNe (o':=.list (l2++[.int (chk c:Int)])) n24.symm (k2 (o':=.list (l1++[.bytes c])) n14.symm gr)))
 refine ⟨Lst.mk _ kr trivial,by decide,Lst.mk _ (getNe n23 (getApp (getSet kk))) (At.mk _ (at_end m2) (Lst.mk _ kr ⟨lm m4,?_⟩))⟩
 rw [List.length_set,List.length_set]
 exact hQ _ _ _ (I.next F u1 (q:=(x % 12,c)) (Nat.mod_lt _ (by decide)) hn n0 e1.symm e2.symm rfl e4.symm)
end
end Ab
end
section
namespace Ab
open PySem
section
variable {d:Nat} {H:AH} {Q:AV->AH->Prop} {E:Nat->AH->Prop}
theorem stage_f {k:WK} {t0 t2 t6 t7 t8 t9 t10:Option AV} (K:k.Ok) (M:Man k.m H) (hN:k.m.N<=H.length) (c6:(k.ct 0).length<=60) (l1:∀ w,w < 2->k.lim w<=1000/\0 < k.lim w) (gl:H[k.li]?=some (.list ((List.range 2).map fun w=>.int (k.lim w:Int)))) (gc:H[k.co]?=some (.list ((List.range k.m.n).map fun r=>.bytes (k.ct r))))
  (gh:H[k.ch]?=some (.list ((List.range k.m.n).map fun r=>.int ((k.m.p r).2.check:Int)))) (gn:H[k.ln]?=some (natL k.nums)) (g0:H[0]?=some k.z0) (hQ:∀ H',H'[0]?=some k.z0->Q (.bool true) H') :
  vSs T (callN T (d + 6)) b_law_0_12 ⟨[t0,some (.ref k.ln),t2,some (.ref k.li),some (.ref k.co),some (.ref k.ch),t6,t7,t8,t9,t10,some k.m.mf.row,some (.ref k.m.m),none,none,none,none,none,none,none,none],H⟩ (retK Q) fun c st=>st.on fun _ H=>E c H:=by
 refine ⟨rfl,draw_spec (i:=5) gn K.l0 K.l1 K.lt (by decide) fun zz hz=>mth M.hm rfl (mf_row M fun H1 u1=>.same (same_mf _ (n:=3)) ?_)⟩
 have M1:=M.upd0 u1
 refine ⟨rfl,att M1.hm rfl rfl (Lst.mk _ M1.refs (At.mk _ (rng_at K.n0) (Lst.mk _ (u1.get0 gc) (At.mk _ (rng_at K.n0) ?_))))⟩
 refine fits_spec (M1.obj K.n0) (K.sz 0 K.n0).symm (K.ck 0 K.n0) K.c0 c6 fun H2 u2=>?_
 have u:=u1.trans u2
 exact stage_b K (M.upd0 u) (Nat.le_trans hN u.le) l1 (u.get0 gl) (u.get0 gc) (u.get0 gh) (u.get0 gn) (u.get0 g0) hQ
theorem rs_of {k:MC} {n:Nat} {f:Nat->RI} (h:k.rs.map (·.2)=(List.range n).map f):k.n=n/\∀ r,r < n->(k.p r).2=f r:=by
 have l:=congrArg List.length h
 rw [List.length_map,List.length_map,List.length_range] at l
 refine ⟨l,fun r hr=>?_⟩
 have e:=congrArg (·[r]?) h
 have e2:(k.rs.map (·.2))[r]?=some (k.p r).2:=by rw [List.getElem?_map,MC.at (show r < k.n from Nat.lt_of_lt_of_eq hr l.symm)];rfl
 exact Option.some.inj (e2.symm.trans (e.trans (rng_at hr)))
noncomputable abbrev mfOf (a n:Nat) (p:Nat->Nat×List UInt8):MF:=⟨a % 300,3,[99,111,110,102],200,(List.range n).map fun r=>ri (p r)⟩
theorem mf_ok {a n:Nat} {p:Nat->Nat×List UInt8} (hn:n<=10) (hp:∀ r,r < n->(p r).1 < 12/\(p r).2.length<=30):(mfOf a n p).Ok :=
 ⟨Nat.lt_trans (Nat.mod_lt _ (by decide:0 < 300)) (by decide),(by decide:3 < 18446744073709551616),(by decide:200<=72057594037927935),(by decide:4<=300),Nat.le_trans (Nat.le_of_eq (by rw [List.length_map,List.length_range])) (Nat.le_trans hn (by decide)),fun r hr=>by
  obtain ⟨i,hi,rfl⟩:=List.mem_map.mp hr
  obtain ⟨h1,h2⟩:=hp i (List.mem_range.mp hi)
  exact ⟨h1,Nat.le_trans h2 (by decide),chk_lt (Nat.le_trans h2 (by decide)),(by decide:1<=250),(by decide:2<=250)⟩⟩
theorem enc_man {co ch i_ ro n:Nat} {G:AH} {b:PcA} (a:Nat) (hn:n<=10) (I:PcI co ch i_ ro G n b):∃ k:MC,k.m=b.H.length/\k.mf=mfOf a n b.p/\Man k (b.H++[(mfOf a n b.p).obj i_]) :=
 ⟨⟨(b.H++[(mfOf a n b.p).obj i_]).length,b.H.length,i_,mfOf a n b.p,(List.range n).map fun r=>(b.as r,ri (b.p r))⟩,rfl,rfl,getLast',by rw [List.map_map];exact getApp I.gi,fun p hp=>by
  obtain ⟨r,hr,rfl⟩:=List.mem_map.mp hp
  exact getApp (I.ho r (List.mem_range.mp hr)).1,List.length_append▸Nat.lt_succ_self _,ltApp I.gi,fun p hp=>by
  obtain ⟨r,hr,rfl⟩:=List.mem_map.mp hp
  exact ltApp (I.ho r (List.mem_range.mp hr)).1,List.map_map ..,mf_ok hn I.hp⟩
theorem stage_e {co ch i_ ro n ln li l0 l1 a:Nat} {G:AH} {b:PcA} {nums:List Nat} {z0:AObj} {t0:Option AV} (F:Four co ch i_ ro G) (I:PcI co ch i_ ro G n b) (hl0:l0<=1000/\0 < l0) (hl1:l1<=1000/\0 < l1) (hn:n<=10) (n0:0 < n)
  (gn:b.H[ln]?=some (natL nums)) (gl:b.H[li]?=some (.list [.int (l0:Int),.int (l1:Int)])) (g0:b.H[0]?=some z0) (m1:nums.length<=100) (m0:0 < nums.length) (ml:∀ n∈nums,n < 999983) (hQ:∀ H',H'[0]?=some z0->Q (.bool true) H') :
  vSs T (callN T (d + 6)) b_law_0_10 ⟨[t0,some (.ref ln),some (.int (a:Int)),some (.ref li),some (.ref co),some (.ref ch),some (.ref i_),some (.ref ro),b.t8,b.t9,b.t10,none,none,none,none,none,none,none,none,none,none],b.H⟩ (retK Q) fun c st=>st.on fun _ H=>E c H:=by
 have gr:b.H[ro]?=some (.list ((mfOf a n b.p).runs.map fun r=>.tup r.vals)):=by rw [List.map_map];exact I.gr
 have ok:=mf_ok (a:=a) hn I.hp
 refine ⟨by decide,Lst.mk _ gr ?_⟩
 refine ⟨rfl,rfl,by decide,?_⟩
 refine mf_init (mfOf a n b.p) ?_
 refine ⟨rfl,?_⟩
 obtain ⟨k1,hm,hk,M1⟩:=enc_man a hn I
 have e0:(b.H++[(mfOf a n b.p).obj i_])[b.H.length]?=some ((mfOf a n b.p).obj i_):=getLast'
 refine mth e0 rfl ?_
 rw [<-hm]
 refine mf_encode (d:=d + 2) M1 fun H1 u1=>?_
 rw [hk]
 refine mf_decode (d:=d+1) ok fun H2 k u2 M2 e1 e2=>?_
 have u:=(Upd.app (S:=[]) (H:=b.H)).trans (u1.trans u2)
 obtain ⟨q1,q2⟩:=rs_of (M2.eq.trans (congrArg MF.runs e1))
 have ek:∀ r,r < k.n->(k.p r).2=ri (b.p r):=fun r hr=>q2 r (q1▸hr)
 have st:=stage_f (d:=d) (Q:=Q) (E:=E) (t0:=t0) (t2:=some (.int (a:Int))) (t6:=some (.ref i_)) (t7:=some (.ref ro)) (t8:=b.t8) (t9:=b.t9) (t10:=b.t10) (k:=⟨k,fun _=>0,fun _=>0,two l0 l1,fun _=>0,fun r=>(b.p r).2,0,0,li,co,ch,ln,nums,z0⟩)
  ⟨fun r hr=>by rw [ek r hr];rfl,fun r hr=>by rw [ek r hr];rfl,q1▸hn,q1▸n0,I.h0 n0,m1,m0,ml⟩ M2 (Nat.le_of_eq e2) (Nat.le_trans (I.hp 0 n0).2 (by decide)) (two_of (P:=fun _ l=>l<=1000/\0 < l) hl0 hl1) (u.get0 gl) (by rw [q1];exact u.get0 I.gc)
  (by rw [q1];exact (u.get0 I.gk).trans (congrArg (fun L=>some (AObj.list L)) (List.map_congr_left fun r hr=>by rw [q2 r (List.mem_range.mp hr)]))) (u.get0 gn) (u.get0 g0) hQ
 dsimp only at st
 rw [e1] at st
 exact st
end
end Ab
end
section
namespace Ab
open PySem
section
variable {d:Nat} {H:AH} {Q:AV->AH->Prop} {E:Nat->AH->Prop}
theorem stage_g {co ch i_ ro ln li l0 l1 a:Nat} {nums:List Nat} {z0:AObj} {t0:Option AV} (F:Four co ch i_ ro H) (I:PcI co ch i_ ro H 0 ⟨fun _=>(0,[]),fun _=>0,none,none,none,H⟩) (hl0:l0<=1000/\0 < l0) (hl1:l1<=1000/\0 < l1)
  (gn:H[ln]?=some (natL nums)) (gl:H[li]?=some (.list [.int (l0:Int),.int (l1:Int)])) (g0:H[0]?=some z0) (on:ln < co) (ol:li < co) (o0:0 < co) (m1:nums.length<=100) (m0:0 < nums.length) (ml:∀ n∈nums,n < 999983) (hQ:∀ H',H'[0]?=some z0->Q (.bool true) H') :
  vSs T (callN T (d + 6)) b_law_0_9 ⟨[t0,some (.ref ln),some (.int (a:Int)),some (.ref li),some (.ref co),some (.ref ch),some (.ref i_),some (.ref ro),none,none,none,none,none,none,none,none,none,none,none,none,none],H⟩ (retK Q) fun c st=>st.on fun _ H=>E c H:=by
 have old:∀ {x:Nat} {o:AObj} {G:AH},x < co->Upd [co,ch,i_,ro] H G->H[x]?=some o->G[x]?=some o:=fun l u e=>u.get e fun q=>by
  have l2:=Nat.lt_trans l F.h1
  have l3:=Nat.lt_trans l2 F.h2
  simp only [List.mem_cons,List.not_mem_nil,or_false] at q
  exact q.elim (Nat.ne_of_lt l) (Or.elim · (Nat.ne_of_lt l2) (Or.elim · (Nat.ne_of_lt l3) (Nat.ne_of_lt (Nat.lt_trans l3 F.h3))))
 have hn:1 + a % 4<=10:=Nat.le_trans (Nat.add_le_add_left (Nat.le_of_lt (Nat.mod_lt a (by decide:0 < 4))) 1) (by decide)
 refine ⟨by decide,Nat.le_trans hn (by decide),forN (n:=1 + a % 4) (fun j (b:PcA)=>⟨[t0,some (.ref ln),some (.int (a:Int)),some (.ref li),some (.ref co),some (.ref ch),some (.ref i_),some (.ref ro),b.t8,b.t9,b.t10,none,none,none,none,none,none,none,none,none,none],b.H⟩) (PcI co ch i_ ro H) _ I (fun j b hj I=>?_) fun b I=>?_⟩
 ·have j10:=Nat.le_trans (Nat.le_of_lt hj) hn
  refine ⟨rfl,draw_spec (i:=1 + j) (old on I.u gn) m0 m1 ml (Nat.le_trans (Nat.add_le_add_left j10 1) (by decide)) fun x hx=>⟨by decide,?_⟩⟩
  rcases Decidable.em (j=0) with g|g
  ·refine ifT (Int.ofNat_inj.mpr g) ⟨by decide,?_⟩
   exact piece_spec (n:=1 + x % 30) F I j10 (Nat.add_comm 1 _▸Nat.mod_lt x (by decide)) (fun _=>Nat.add_comm 1 (x % 30)▸Nat.succ_pos _) hx fun p as H' I'=>Fxt.mk ⟨p,as,_,_,_,H'⟩ rfl I'
  ·refine ifF (fun h=>g (Int.ofNat_inj.mp h)) ?_
   exact piece_spec (n:=x % 10) F I j10 (Nat.le_trans (Nat.le_of_lt (Nat.mod_lt x (by decide:0 < 10))) (by decide)) (fun h=>absurd h g) hx fun p as H' I'=>Fxt.mk ⟨p,as,_,_,_,H'⟩ rfl I'
 ·exact stage_e F I hl0 hl1 hn (Nat.lt_of_lt_of_le Nat.one_pos (Nat.le_add_right _ _)) (old on I.u gn) (old ol I.u gl) (old o0 I.u g0) m1 m0 ml hQ
theorem stage_h {ln li l0 l1 a:Nat} {nums:List Nat} {z0:AObj} {t0:Option AV} (hl0:l0<=1000/\0 < l0) (hl1:l1<=1000/\0 < l1)
  (gn:H[ln]?=some (natL nums)) (gl:H[li]?=some (.list [.int (l0:Int),.int (l1:Int)])) (g0:H[0]?=some z0) (m1:nums.length<=100) (m0:0 < nums.length) (ml:∀ n∈nums,n < 999983) (hQ:∀ H',H'[0]?=some z0->Q (.bool true) H') :
  vSs T (callN T (d + 6)) b_law_0_5 ⟨[t0,some (.ref ln),some (.int (a:Int)),some (.ref li),none,none,none,none,none,none,none,none,none,none,none,none,none,none,none,none,none],H⟩ (retK Q) fun c st=>st.on fun _ H=>E c H:=by
 have g:=gLast H (AObj.list [])
 have g2:=gLast (H++[AObj.list []]) (AObj.list [])
 have g3:=gLast (H++[AObj.list []]++[AObj.list []]) (AObj.list [])
 have g4:=gLast (H++[AObj.list []]++[AObj.list []]++[AObj.list []]) (AObj.list [])
 exact stage_g ⟨ltOf g,ltOf g2,ltOf g3,ltOf g4⟩ ⟨.refl,getApp (getApp (getApp g)),getApp (getApp g2),getApp g3,g4,(fun _ h=>absurd h (Nat.not_lt_zero _)),(fun _ h=>absurd h (Nat.not_lt_zero _)),fun h=>absurd h (Nat.lt_irrefl _)⟩ hl0 hl1
  (getApp (getApp (getApp (getApp gn)))) (getApp (getApp (getApp (getApp gl)))) (getApp (getApp (getApp (getApp g0)))) (ltOf gn) (ltOf gl) (ltOf g0) m1 m0 ml hQ
theorem stage_i {ln:Nat} {nums:List Nat} {z0:AObj} {t0:Option AV} (gn:H[ln]?=some (natL nums)) (g0:H[0]?=some z0) (m1:nums.length<=100) (m0:0 < nums.length) (ml:∀ n∈nums,n < 999983) (hQ:∀ H',H'[0]?=some z0->Q (.bool true) H') :
  vSs T (callN T (d + 6)) b_law_0_2 ⟨[t0,some (.ref ln),none,none,none,none,none,none,none,none,none,none,none,none,none,none,none,none,none,none,none],H⟩ (retK Q) fun c st=>st.on fun _ H=>E c H:=by
 refine ⟨rfl,draw_spec (i:=0) gn m0 m1 ml (by decide) fun a ha=>⟨by decide,by decide,by decide,by decide,by decide,by decide,by decide,by decide,?_⟩⟩
 have b0:2 + a / 4 % 9<=1000/\0 < 2 + a / 4 % 9:=⟨Nat.le_trans (Nat.add_le_add_left (Nat.le_of_lt (Nat.mod_lt (a / 4) (by decide:0 < 9))) 2) (by decide),Nat.lt_of_lt_of_le (by decide) (Nat.le_add_right _ _)⟩
 have b1:3 + a / 4 % 9 + a / 36 % 40<=1000/\0 < 3 + a / 4 % 9 + a / 36 % 40:=⟨Nat.le_trans (Nat.add_le_add (Nat.add_le_add_left (Nat.le_of_lt (Nat.mod_lt (a / 4) (by decide:0 < 9))) 3) (Nat.le_of_lt (Nat.mod_lt (a / 36) (by decide:0 < 40)))) (by decide),Nat.lt_of_lt_of_le (by decide:0 < 3) (Nat.le_trans (Nat.le_add_right _ _) (Nat.le_add_right _ _))⟩
 rcases Decidable.em ((a:Int) / 1440 % 2=1) with g|g
 ·refine ifT g ⟨Lst.mk _ (gLast _ _) trivial,rfl,Lst.mk _ (gLast _ _) ?_⟩
  exact stage_h b1 b0 (getNe (Nat.ne_of_lt (ltOf gn)) (getApp gn)) (getSet (gLast _ _)) (getNe (Nat.ne_of_lt (ltOf g0)) (getApp g0)) m1 m0 ml hQ
 ·exact ifF g (stage_h b0 b1 (getApp gn) (gLast _ _) (getApp g0) m1 m0 ml hQ)
theorem law_01 {its:List Value} {nums:List Int} (hQ:∀ H',H'[0]?=some (.frz its (nums.map .int))->Q (.bool true) H'):callN T (d + 7) 0 i_law [.ref 0] [.frz its (nums.map .int)] Q E:=by
 refine enter fd_law rfl rfl (.inr (Frz.mk its _ rfl ⟨by decide,?_⟩))
 have eb:([AObj.frz its (nums.map .int)]++[AObj.list (cutL (nums.map AV.int) 0 12)])[1]?=some (.list ((cutL nums 0 12).map .int)):=by rw [cut_map];rfl
 have hl:(cutL nums 0 12).length<=12:=List.length_take_le _ _
 generalize cutL nums 0 12=ps at eb hl
 refine Lst.mk _ eb (forL (fun j (a:Option AV×AH)=>⟨[a.1],a.2⟩) (fun j a=>RowsI ([AObj.frz its (nums.map .int)]++[AObj.list (cutL (nums.map AV.int) 0 12)]) (((ps.take j).map fun i=>(i % 999983).toNat).map fun n:Nat=>AV.int (n:Int)) a) (none,_++[AObj.list []]) ⟨.app,getLast'⟩ (fun n a J=>J.u.get0 eb) (fun j i a e J=>?_) fun a J=>?_)
 ·have e2:(i % 999983)=((i % 999983).toNat:Int):=(Int.toNat_of_nonneg (Int.emod_nonneg _ (by decide))).symm
  refine ⟨by decide,?_⟩
  rw [e2]
  exact Lst.mk _ J.o ⟨Nat.lt_of_le_of_lt (Nat.le_trans (Nat.le_of_eq (by rw [List.length_map,List.length_map])) (Nat.le_trans (List.length_take_le' _ _) hl)) (by decide),Fxt.mk (_,_) rfl (J.push .refl (by rw [List.take_add_one,e,List.map_append,List.map_append];rfl))⟩
 ·have o:=J.o
  rw [List.take_length] at o
  have ml:∀ n∈(ps.map fun i=>(i % 999983).toNat),n < 999983:=fun n hn=>by
   obtain ⟨i,_,rfl⟩:=List.mem_map.mp hn
   exact (Int.toNat_lt (Int.emod_nonneg _ (by decide))).mpr (Int.emod_lt_of_pos _ (by decide))
  have m1:(ps.map fun i=>(i % 999983).toNat).length<=100:=Nat.le_trans (Nat.le_of_eq (List.length_map _)) (Nat.le_trans hl (by decide))
  generalize (ps.map fun i=>(i % 999983).toNat)=ns at o ml m1
  refine Lst.mk _ o ?_
  rw [List.length_map]
  have g0:a.2[0]?=some (.frz its (nums.map .int)):=J.u.get0 rfl
  cases ns with
  | nil=>exact stage_i (nums:=[3]) (gLast _ _) (getApp g0) (by decide) (by decide) (by decide) hQ
  | cons n ns=>exact stage_i o g0 m1 (Nat.succ_pos _) ml hQ
end
theorem pure_01 (its:List Value) (nums:List Int) (_:nums.length<=63):callN T 41 0 i_law [AV.ref 0] [AObj.frz its (nums.map AV.int)] (fun v H=>v=AV.bool true/\H[0]?=some (AObj.frz its (nums.map AV.int))) fun _ _=>False :=
 law_01 (d:=34) fun _ h=>⟨rfl,h⟩
end Ab
end

theorem PySem.Challenge.cw_xm0850_01_holds : PySem.Challenge.rw_xm0850_01.Holds := by
  exact Ab.fin Ab.pure_01
