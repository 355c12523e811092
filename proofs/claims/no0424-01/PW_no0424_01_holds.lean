import PyProof.Rows.All
import Wide.All
import OpenK.AllK
import Wide.FinOn
import Lean
import PySem.Challenge.RW_no0424_01
set_option Elab.async false
set_option maxRecDepth 100000
set_option maxHeartbeats 0
set_option autoImplicit false
set_option linter.all false
set_option bootstrap.genMatcherCode false
set_option genSizeOf false
set_option genInjectivity false
set_option backward.match.sparseCases false
section
section
open PySem
namespace Mine
theorem nS {α:Type} {a:α} {P:Prop} (h:none=some a):P:=nomatch h
theorem nN {α:Type} {a:α} {P:Prop} (h:some a=none):P:=nomatch h
theorem nB {P:Prop} (h:false=true):P:=nomatch h
theorem nT {P:Prop} (h:true=false):P:=nomatch h
set_option genInjectivity true in
inductive V where
  | none | bool (b:Bool) | int (i:Int) | bytes (b:List UInt8) | tup (vs:List V) | lst (vs:List V) | ref (r:Nat)
  deriving Inhabited
set_option genInjectivity true in
inductive O where
  | list (vs:List V) | dict (es:List (Int×V)) | inst (c:Nat) (fs:List (Nat×V)) | tdict (es:List (List Int×V))
  deriving Inhabited
noncomputable abbrev Hp:=List O
noncomputable abbrev En:=List (Option V)
inductive X where
  | const (v:V)
  | loc (i:Nat)
  | attr (e:X) (f:Nat)
  | call (f:Nat) (args:List X)
  | new (c:Nat) (args:List X)
  | meth (e:X) (m:Nat) (args:List X)
  | append (e a:X) | pop (e:X) | pop0 (e a:X) | reverse (e:X)
  | len (e:X) | sorted (e:X) | min (a b:X) | any (e:X)
  | bin (op:Operator) (a b:X)
  | cmp (op:CmpOp) (a b:X)
  | bop (isAnd:Bool) (es:List X)
  | not (a:X) | neg (a:X)
  | tup (es:List X) | list (es:List X) | dict (ks vs:List X)
  | sub (a i:X)
  | slice (a:X) (lo hi:Option X)
  | comp (elt:X) (isRange:Bool) (src:List X) (cond:Option X)
  | bad
  deriving Inhabited
inductive S where
  | pass | cont | ret (e:X) | expr (e:X)
  | asg (i:Nat) (e:X)
  | setattr (o:X) (f:Nat) (e:X)
  | setitem (o i e:X)
  | unpack (is:List Nat) (e:X)
  | augName (i:Nat) (op:Operator) (e:X)
  | augAttr (o:X) (f:Nat) (op:Operator) (e:X)
  | augItem (o i:X) (op:Operator) (e:X)
  | ite (c:X) (t e:List S)
  | while (c:X) (b:List S)
  | forr (i:Nat) (isRange:Bool) (src:List X) (b:List S)
  | bad
  deriving Inhabited
inductive Fl where
  | next | cont | ret (v:V)
noncomputable def listAt (r:Nat) (H:Hp):Option (List V):=match H[r]? with
  | some (.list vs)=>some vs
  | _=>none
noncomputable def dictAt (r:Nat) (H:Hp):Option (List (Int×V)):=match H[r]? with
  | some (.dict es)=>some es
  | _=>none
noncomputable def tdictAt (r:Nat) (H:Hp):Option (List (List Int×V)):=match H[r]? with
  | some (.tdict es)=>some es
  | some (.dict es)=>cond es.isEmpty (some []) none
  | _=>none
noncomputable def tget (k:List Int):List (List Int×V)→Option V
  | []=>none
  | e::es=>if e.1 == k then some e.2 else tget k es
noncomputable def intsOf:List V→Option (List Int)
  | []=>some []
  | v::vs=>match v with
    | .int i=>(intsOf vs).map (i::·)
    | _=>none
noncomputable def keyT:V→Option (List Int)
  | .tup vs=>cond (decide (vs.length≤8)) (intsOf vs) none
  | _=>none
noncomputable def instAt (r:Nat) (H:Hp):Option (Nat×List (Nat×V)):=match H[r]? with
  | some (.inst c fs)=>some (c,fs)
  | _=>none
noncomputable def intO:V→Option Int
  | .int i=>some i
  | _=>none
noncomputable def bytesO:V→Option (List UInt8)
  | .bytes b=>some b
  | _=>none
noncomputable def isNone:V→Bool
  | .none=>true
  | _=>false
section
variable {α β:Type}
noncomputable def both (f:α→α→β) (a b:Option α):Option β:=a.bind fun x=>b.map fun y=>f x y
noncomputable def els (a b:Option α):Option α:=match a with
  | some x=>some x
  | none=>b
end
noncomputable def toDs (f:V→Option PyData):List V→Option (List PyData)
  | []=>some []
  | v::vs=>(f v).bind fun d=>(toDs f vs).map fun ds=>d::ds
noncomputable def toD:Nat→V→Option PyData
  | n,v=>match v with
    | .none=>some .none
    | .bool b=>some (.bool b)
    | .int i=>some (.int i)
    | .tup vs=>match n with
      | n + 1=>(toDs (toD n) vs).map .tuple
      | 0=>none
    | _=>none
noncomputable def dOf (H:Hp) (v:V):Option PyData:=match v with
  | .ref r=>(listAt r H).bind fun vs=>(toDs (toD 2) vs).map .list
  | v=>toD 3 v
noncomputable def isNil (H:Hp) (v:V):Option Bool:=match v with
  | .ref r=>(listAt r H).map List.isEmpty
  | _=>none
noncomputable def dget (k:Int):List (Int×V)→Option V
  | []=>none
  | e::es=>if e.1 == k then some e.2 else dget k es
noncomputable def dset (k:Int) (v:V) (es:List (Int×V)):List (Int×V):=(k,v)::es
noncomputable def dOfV (H:Hp) (v:V):Option (List (Int×V)):=match v with
  | .ref r=>dictAt r H
  | _=>none
noncomputable def dkeys:List (Int×V)→List Int
  | []=>[]
  | e::es=>cond ((dkeys es).contains e.1) (dkeys es) (e.1::dkeys es)
noncomputable def dval (k:Int) (es:List (Int×V)):Option Int:=(dget k es).bind intO
noncomputable def dSame (es es':List (Int×V)):Option Bool :=
  cond (es.all fun e=>(intO e.2).isSome) (cond (es'.all fun e=>(intO e.2).isSome) (some ((dkeys es).length == (dkeys es').length && (dkeys es).all fun k=>dval k es == dval k es')) none) none
noncomputable def eqV (H:Hp) (a b:V):Option Bool :=
  els (both (· == ·) (bytesO a) (bytesO b)) (els (both PyData.eqv (dOf H a) (dOf H b)) (els ((both Prod.mk (isNil H a) (isNil H b)).bind fun p=>cond (p.1 || p.2) (some (p.1 && p.2)) none)
    ((dOfV H a).bind fun es=>(dOfV H b).bind fun es'=>dSame es es')))
noncomputable def inD (a:V) (vs:List V):Option Bool:=(toD 2 a).bind fun x=>(toDs (toD 2) vs).map fun ys=>ys.any fun y=>PyData.eqv y x
noncomputable def inV (H:Hp) (a c:V):Option Bool:=match c with
  | .ref r=>els ((listAt r H).bind (inD a)) (els ((dictAt r H).bind fun es=>(intO a).map fun k=>(dget k es).isSome) ((tdictAt r H).bind fun es=>(keyT a).map fun k=>(tget k es).isSome))
  | .tup vs=>inD a vs
  | _=>none
noncomputable def truthV (H:Hp):V→Option Bool
  | .bool b=>some b
  | .none=>some false
  | .ref r=>(listAt r H).map fun vs=>!vs.isEmpty
  | _=>none
noncomputable def lim:Nat:=1000000
noncomputable def small (i:Int):Bool:=decide (-4611686018427387904 < i) && decide (i < 4611686018427387904)
noncomputable def arith (op:Operator) (x y:Int):Option Int:=match op with
  | .Add=>some (x + y)
  | .Sub=>some (x - y)
  | .Mult=>cond (small x && small y) (some (x * y)) none
  | .FloorDiv=>cond (decide (0 < y) && decide (y < 1073741824)) (some (x / y)) none
  | .Mod=>cond (decide (0 < y)) (some (x % y)) none
  | .Pow=>cond (small x && (decide (0≤y) && decide (y≤62))) (some (x ^ y.toNat)) none
  | .LShift=>cond (small x && (decide (0≤y) && decide (y≤62))) (some (x * 2 ^ y.toNat)) none
  | _=>none
noncomputable def binV (op:Operator) (a b:V) (H:Hp):Option (V×Hp):=match a with
  | .int x=>(intO b).bind fun y=>(arith op x y).map fun z=>(.int z,H)
  | .tup xs=>match b with
    | .tup ys=>cond (op == .Add && decide (xs.length + ys.length < lim)) (some (.tup (xs++ys),H)) none
    | _=>none
  | .ref r=>match b with
    | .ref q=>(listAt r H).bind fun xs=>(listAt q H).bind fun ys=>cond (op == .Add && decide (xs.length + ys.length < lim)) (some (.ref H.length,H++[.list (xs++ys)])) none
    | _=>none
  | _=>none
noncomputable def augV (op:Operator) (a b:Int):Option Int :=
  match op with
  | .Add=>some (a + b)
  | .Sub=>some (a - b)
  | _=>none
noncomputable def cmpB (op:CmpOp) (a b:V) (H:Hp):Option Bool:=match op with
  | .Eq=>eqV H a b
  | .NotEq=>(eqV H a b).map not
  | .In=>inV H a b
  | .NotIn=>(inV H a b).map not
  | .Is=>cond (isNone b) (some (isNone a)) none
  | .IsNot=>cond (isNone b) (some (!isNone a)) none
  | .Lt=>both (fun x y=>decide (x < y)) (intO a) (intO b)
  | .LtE=>both (fun x y=>decide (x≤y)) (intO a) (intO b)
  | .Gt=>both (fun x y=>decide (y < x)) (intO a) (intO b)
  | .GtE=>both (fun x y=>decide (y≤x)) (intO a) (intO b)
noncomputable def cmpV (op:CmpOp) (a b:V) (H:Hp):Option V:=(cmpB op a b H).map .bool
noncomputable def idx (vs:List V) (k:Int):Option V :=
  cond (decide (0≤k)) vs[k.toNat]? (cond (decide (-(vs.length:Int)≤k)) vs[(vs.length + k).toNat]? none)
noncomputable def idxS (i:V) (vs:List V):Option V:=(intO i).bind fun k=>cond (small k) (idx vs k) none
noncomputable def subV (a i:V) (H:Hp):Option V:=match a with
  | .tup vs=>idxS i vs
  | .lst vs=>idxS i vs
  | .ref r=>els ((listAt r H).bind (idxS i)) (els ((dictAt r H).bind fun es=>(intO i).bind fun k=>dget k es) ((tdictAt r H).bind fun es=>(keyT i).bind fun k=>tget k es))
  | _=>none
noncomputable def cut (vs:List V) (lo hi:Option Nat):List V :=
  (vs.drop (min (lo.getD 0) vs.length)).take ((match hi with | some h=>min h vs.length | none=>vs.length) - min (lo.getD 0) vs.length)
noncomputable def natOf:Option V→Option (Option Nat)
  | none=>some none
  | some v=>(intO v).bind fun k=>cond (decide (0≤k) && decide (k≤1000000)) (some (some k.toNat)) none
noncomputable def sliceV (a:V) (lo hi:Option V) (H:Hp):Option (V×Hp) :=
  (natOf lo).bind fun l=>(natOf hi).bind fun h=>match a with
    | .tup vs=>match l with
      | none=>h.bind fun b=>cond (decide (vs.length≤lim)) (some (.tup (vs.take b),H)) none
      | some _=>none
    | .lst vs=>cond (decide (vs.length≤lim)) (some (.ref H.length,H++[.list (cut vs l h)])) none
    | .ref r=>(listAt r H).map fun vs=>(.ref H.length,H++[.list (cut vs l h)])
    | _=>none
noncomputable def setItemV (o i v:V) (H:Hp):Option Hp:=match o with
  | .ref r=>els ((listAt r H).bind fun vs=>(intO i).bind fun k=>cond (small k && (decide (0≤k) && decide (k.toNat < vs.length))) (some (H.set r (.list (vs.set k.toNat v)))) none)
      (els ((dictAt r H).bind fun es=>(intO i).bind fun k=>cond (decide (es.length < lim)) (some (H.set r (.dict (dset k v es)))) none)
        ((tdictAt r H).bind fun es=>(keyT i).bind fun k=>cond (decide (es.length < lim)) (some (H.set r (.tdict ((k,v)::es)))) none))
  | _=>none
noncomputable def fget (f:Nat):List (Nat×V)→Option V
  | []=>none
  | e::es=>if e.1 == f then some e.2 else fget f es
noncomputable def fset (f:Nat) (v:V):List (Nat×V)→List (Nat×V)
  | []=>[(f,v)]
  | e::es=>if e.1 == f then (f,v)::es else e::fset f v es
noncomputable def toInts:List V→Option (List Int)
  | []=>some []
  | .int i::vs=>(toInts vs).map (i::·)
  | _=>none
noncomputable def toBools:List V→Option (List Bool)
  | []=>some []
  | .bool i::vs=>(toBools vs).map (i::·)
  | _=>none
noncomputable def ins (i:Int):List Int→List Int
  | []=>[i]
  | j::js=>if i≤j then i::j::js else j::ins i js
noncomputable def isort:List Int→List Int
  | []=>[]
  | i::is=>ins i (isort is)
noncomputable def listOf (H:Hp) (v:V):Option (List V):=match v with
  | .ref r=>listAt r H
  | _=>none
noncomputable def lenV (H:Hp) (v:V):Option Int:=match v with
  | .tup vs=>cond (decide (vs.length≤lim)) (some vs.length) none
  | .lst vs=>cond (decide (vs.length≤lim)) (some vs.length) none
  | v=>(listOf H v).map fun vs=>(vs.length:Int)
noncomputable def setLoc (ρ:En) (i:Nat) (v:V):En:=ρ.set i (some v)
noncomputable def setLocs:List Nat→List V→En→Option En
  | [],[],ρ=>some ρ
  | i::is,v::vs,ρ=>setLocs is vs (setLoc ρ i v)
  | _,_,_=>none
noncomputable def rangeInts (a b:Int):List V:=(List.range (b - a).toNat).map fun (k:Nat)=>V.int (a + (k:Int))
structure FI where
  npar:Nat
  nloc:Nat
  code:List S
structure CI where
  init:Nat
  fields:List Nat
  meths:List (Nat×Nat)
structure Tab where
  fn:List FI
  cls:List CI
  fuel:Nat
noncomputable abbrev Rn (α:Type):=Hp→Option (α×Hp)
section
variable {α β:Type}
noncomputable def pur (a:α):Rn α:=fun H=>some (a,H)
noncomputable def non:Rn α:=fun _=>none
noncomputable def lft (o:Option α):Rn α:=fun H=>match o with
  | some a=>some (a,H)
  | none=>none
noncomputable def bnd (f:Rn α) (g:α→Rn β):Rn β:=fun H=>match f H with
  | some p=>g p.1 p.2
  | none=>none
end
structure Evs where
  x:X→En→Rn V
  s:S→En→Rn (Fl×En)
noncomputable def evs (f:X→En→Rn V) (ρ:En):List X→Rn (List V)
  | []=>pur []
  | x::xs=>bnd (f x ρ) fun v=>bnd (evs f ρ xs) fun vs=>pur (v::vs)
noncomputable def evo (f:X→En→Rn V) (ρ:En):Option X→Rn (Option V)
  | none=>pur none
  | some x=>bnd (f x ρ) fun v=>pur (some v)
noncomputable def truR (v:V):Rn Bool:=fun H=>lft (truthV H v) H
noncomputable def bops (f:X→En→Rn V) (b:Bool) (ρ:En):List X→Rn V
  | []=>non
  | x::xs=>match xs with
    | []=>f x ρ
    | _::_=>bnd (f x ρ) fun v=>bnd (truR v) fun t=>cond (t == b) (bops f b ρ xs) (pur v)
noncomputable def exs (f:S→En→Rn (Fl×En)):List S→En→Rn (Fl×En)
  | [],ρ=>pur (.next,ρ)
  | s::ss,ρ=>bnd (f s ρ) fun p=>match p.1 with
    | .next=>exs f ss p.2
    | _=>pur p
noncomputable def condR (f:X→En→Rn V) (c:Option X) (ρ:En):Rn Bool:=match c with
  | none=>pur true
  | some c=>bnd (f c ρ) truR
noncomputable def lstR (u:V):Rn (List V):=fun H=>match u with
  | .ref r=>lft (listAt r H) H
  | _=>none
noncomputable def insR (u:V):Rn (Nat×List (Nat×V)):=fun H=>match u with
  | .ref r=>lft (instAt r H) H
  | _=>none
noncomputable def putO (u:V) (o:O):Rn V:=fun H=>match u with
  | .ref r=>some (.none,H.set r o)
  | _=>none
noncomputable def grd {β:Type} (b:Bool) (f:Rn β):Rn β:=cond b f non
noncomputable def appR (u v:V):Rn V:=bnd (lstR u) fun vs=>grd (Nat.blt vs.length lim) (putO u (.list (vs++[v])))
noncomputable def comps (f:X→En→Rn V) (src:Hp→Option (List V)) (elt:X) (c:Option X) (r:Nat):Nat→Nat→En→Rn V
  | 0,_,_=>non
  | n + 1,k,ρ=>fun H=>match src H with
    | none=>none
    | some vs=>match vs[k]? with
      | none=>some (.ref r,H)
      | some v=>bnd (condR f c (ρ++[some v])) (fun t=>bnd (cond t (bnd (f elt (ρ++[some v])) (appR (.ref r))) (pur .none)) fun _=>comps f src elt c r n (k + 1) ρ) H
noncomputable def fors (f:En→Rn (Fl×En)) (src:Hp→Option (List V)) (i:Nat):Nat→Nat→En→Rn (Fl×En)
  | 0,_,_=>non
  | n + 1,k,ρ=>fun H=>match src H with
    | none=>none
    | some vs=>match vs[k]? with
      | none=>some ((.next,ρ),H)
      | some v=>bnd (f (setLoc ρ i v)) (fun p=>match p.1 with
        | .ret _=>pur p
        | _=>fors f src i n (k + 1) p.2) H
noncomputable def whiles (c:En→Rn Bool) (f:En→Rn (Fl×En)):Nat→En→Rn (Fl×En)
  | 0,_=>non
  | n + 1,ρ=>bnd (c ρ) fun t=>cond t (bnd (f ρ) fun p=>match p.1 with
        | .ret _=>pur p
        | _=>whiles c f n p.2) (pur (.next,ρ))
noncomputable def srcOf (isRange:Bool) (vs:List V) (H:Hp):Option (Hp→Option (List V)):=match vs with
  | []=>none
  | u::r=>match r with
    | []=>cond isRange ((intO u).bind fun b=>cond (small b) (some fun _=>some (rangeInts 0 b)) none) (match u with
      | .ref r=>(listAt r H).map fun _=>listAt r
      | _=>none)
    | w::q=>match q with
      | []=>cond isRange ((intO u).bind fun a=>(intO w).bind fun b=>cond (small a && small b) (some fun _=>some (rangeInts a b)) none) none
      | _::_=>none
noncomputable def srcR (b:Bool) (vs:List V):Rn (Hp→Option (List V)):=fun H=>lft (srcOf b vs H) H
noncomputable def intR {β:Type} (f:Int→Rn β):V→Rn β
  | .int i=>f i
  | _=>non
noncomputable def tupR {β:Type} (f:List V→Rn β):V→Rn β
  | .tup vs=>f vs
  | _=>non
noncomputable def popR (u:V):Rn V:=bnd (lstR u) fun vs=>bnd (lft vs.getLast?) fun v=>bnd (putO u (.list vs.dropLast)) fun _=>pur v
noncomputable def popAt (u:V):V→Rn V:=intR fun k=>bnd (lstR u) fun vs=>grd (small k && decide (0≤k)) (bnd (lft vs[k.toNat]?) fun v=>bnd (putO u (.list (vs.eraseIdx k.toNat))) fun _=>pur v)
noncomputable def ilv:List X→List X→List X
  | k::ks,vs=>match vs with
    | v::q=>k::v::ilv ks q
    | []=>[]
  | [],_=>[]
noncomputable def dPairs:List V→Option (List (Int×V))
  | []=>some []
  | k::r=>match r with
    | []=>none
    | v::q=>(intO k).bind fun i=>(dPairs q).map fun es=>(i,v)::es
noncomputable def mkDict (r:Nat) (us:List V):Rn V:=fun H=>(dictAt r H).bind fun es=>(dPairs us).bind fun ps=>cond (es.isEmpty && (decide (ps.map (·.1)).Nodup && decide (ps.length≤8))) (some (.ref r,H.set r (.dict ps))) none
noncomputable def mkList (vs:List V):Rn V:=fun H=>some (.ref H.length,H++[.list vs])
noncomputable def sortR (v:V):Rn V:=fun H=>bnd (lft (listOf H v)) (fun vs=>bnd (lft (toInts vs)) fun is=>grd (Nat.blt is.length 64) (mkList ((isort is).map .int))) H
noncomputable def anyR (v:V):Rn V:=fun H=>bnd (lft (listOf H v)) (fun vs=>bnd (lft (toBools vs)) fun bs=>pur (.bool (bs.any id))) H
noncomputable def attrR (f:Nat) (u:V):Rn V:=bnd (insR u) fun p=>lft (fget f p.2)
noncomputable def newR (T:Tab) (F:Nat→List V→Rn V) (c:Nat) (vs:List V):Rn V:=bnd (lft T.cls[c]?) fun ci H=>bnd (F ci.init (.ref H.length::vs)) (fun u=>match u with
  | .none=>pur (.ref H.length)
  | _=>non) (H++[.inst c []])
noncomputable def methR (T:Tab) (m:Nat) (u:V):Rn Nat:=bnd (insR u) fun p=>bnd (lft T.cls[p.1]?) fun ci=>lft (ci.meths.lookup m)
noncomputable def setR (T:Tab) (f:Nat) (v u:V):Rn V:=bnd (insR u) fun p=>bnd (lft T.cls[p.1]?) fun ci=>grd (ci.fields.contains f) (putO u (.inst p.1 (fset f v p.2)))
noncomputable def itemR (o i v:V):Rn V:=fun H=>match setItemV o i v H with
  | some H'=>some (.none,H')
  | none=>none
noncomputable def stepX (T:Tab) (F:Nat→List V→Rn V) (f:X→En→Rn V) (x:X) (ρ:En):Rn V :=
  match x with
  | .const v=>pur v
  | .bad=>non
  | .loc i=>bnd (lft ρ[i]?) lft
  | .attr e a=>bnd (f e ρ) (attrR a)
  | .call i as=>bnd (evs f ρ as) (F i)
  | .new c as=>bnd (evs f ρ as) (newR T F c)
  | .meth e m as=>bnd (f e ρ) fun u=>bnd (methR T m u) fun i=>bnd (evs f ρ as) fun vs=>F i (u::vs)
  | .append e a=>bnd (f e ρ) fun u=>bnd (lstR u) fun _=>bnd (f a ρ) (appR u)
  | .pop e=>bnd (f e ρ) popR
  | .pop0 e a=>bnd (f e ρ) fun u=>bnd (lstR u) fun _=>bnd (f a ρ) (popAt u)
  | .reverse e=>bnd (f e ρ) fun u=>bnd (lstR u) fun vs=>putO u (.list vs.reverse)
  | .len e=>bnd (f e ρ) fun v H=>bnd (lft (lenV H v)) (fun n=>pur (.int n)) H
  | .sorted e=>bnd (f e ρ) sortR
  | .min a b=>bnd (f a ρ) fun u=>bnd (f b ρ) fun v=>intR (fun i=>intR (fun j=>pur (.int (if j < i then j else i))) v) u
  | .any e=>bnd (f e ρ) anyR
  | .bin op a b=>bnd (f a ρ) fun u=>bnd (f b ρ) fun v=>binV op u v
  | .cmp op a b=>bnd (f a ρ) fun u=>bnd (f b ρ) fun v H=>lft (cmpV op u v H) H
  | .bop b es=>bops f b ρ es
  | .not a=>bnd (f a ρ) fun v=>bnd (truR v) fun b=>pur (.bool !b)
  | .neg a=>bnd (f a ρ) (intR fun i=>pur (.int (-i)))
  | .tup es=>bnd (evs f ρ es) fun vs=>pur (.tup vs)
  | .list es=>bnd (evs f ρ es) mkList
  | .dict ks vs=>match ks with
    | []=>fun H=>some (.ref H.length,H++[.dict []])
    | k::r=>fun H=>bnd (evs f ρ (ilv (k::r) vs)) (mkDict H.length) (H++[.dict []])
  | .sub a i=>bnd (f a ρ) fun u=>bnd (f i ρ) fun k H=>lft (subV u k H) H
  | .slice a lo hi=>bnd (f a ρ) fun u=>bnd (evo f ρ lo) fun l=>bnd (evo f ρ hi) fun h=>sliceV u l h
  | .comp elt b src c=>bnd (evs f ρ src) fun vs=>bnd (srcR b vs) fun g=>bnd (mkList []) fun u=>match u with
    | .ref r=>comps f g elt c r lim 0 ρ
    | _=>non
noncomputable def unpR (is:List Nat) (ρ:En) (vs:List V):Rn (Fl×En):=bnd (lft (setLocs is vs ρ)) fun ρ'=>pur (.next,ρ')
noncomputable def stepS (T:Tab) (E:Evs) (s:S) (ρ:En):Rn (Fl×En) :=
  match s with
  | .pass=>pur (.next,ρ)
  | .cont=>pur (.cont,ρ)
  | .bad=>non
  | .ret e=>bnd (E.x e ρ) fun v=>pur (.ret v,ρ)
  | .expr e=>bnd (E.x e ρ) fun _=>pur (.next,ρ)
  | .asg i e=>bnd (E.x e ρ) fun v=>pur (.next,setLoc ρ i v)
  | .setattr o f e=>bnd (E.x e ρ) fun v=>bnd (E.x o ρ) fun u=>bnd (setR T f v u) fun _=>pur (.next,ρ)
  | .setitem o i e=>bnd (E.x e ρ) fun v=>bnd (E.x o ρ) fun u=>bnd (E.x i ρ) fun k=>bnd (itemR u k v) fun _=>pur (.next,ρ)
  | .unpack is e=>bnd (E.x e ρ) (tupR (unpR is ρ))
  | .augName i op e=>bnd (bnd (lft ρ[i]?) lft) (intR fun a=>bnd (E.x e ρ) (intR fun b=>bnd (lft (augV op a b)) fun z=>pur (.next,setLoc ρ i (.int z))))
  | .augAttr o f op e=>bnd (E.x o ρ) fun u=>bnd (attrR f u) (intR fun a=>bnd (E.x e ρ) (intR fun b=>bnd (lft (augV op a b)) fun z=>bnd (setR T f (.int z) u) fun _=>pur (.next,ρ)))
  | .augItem o i op e=>bnd (E.x o ρ) fun u=>bnd (E.x i ρ) fun k=>bnd (fun H=>lft (subV u k H) H) (intR fun a=>bnd (E.x e ρ) (intR fun b=>bnd (lft (augV op a b)) fun z=>bnd (itemR u k (.int z)) fun _=>pur (.next,ρ)))
  | .ite c t e=>bnd (bnd (E.x c ρ) truR) fun b=>cond b (exs E.s t ρ) (exs E.s e ρ)
  | .while c b=>whiles (fun ρ=>bnd (E.x c ρ) truR) (exs E.s b) lim ρ
  | .forr i b src body=>bnd (evs E.x ρ src) fun vs=>bnd (srcR b vs) fun g=>fors (exs E.s body) g i lim 0 ρ
noncomputable def ev (T:Tab) (F:Nat→List V→Rn V):Nat→Evs
  | 0=>⟨fun _ _=>non,fun _ _=>non⟩
  | n + 1=>⟨stepX T F (ev T F n).x,stepS T (ev T F n)⟩
noncomputable def flV:Fl→V
  | .ret v=>v
  | _=>.none
noncomputable def callF (T:Tab) (F:Nat→List V→Rn V) (fi:FI) (vs:List V):Rn V:=grd (Nat.beq vs.length fi.npar) (bnd (exs (ev T F T.fuel).s fi.code (vs.map some++List.replicate (fi.nloc - fi.npar) none)) fun p=>pur (flV p.1))
noncomputable def evF (T:Tab):Nat→Nat→List V→Rn V
  | 0,_,_=>non
  | d + 1,f,vs=>bnd (lft T.fn[f]?) fun fi=>callF T (evF T d) fi vs
theorem ins_cons {i j:Int} {js:List Int}:ins i (j::js)=if i≤j then i::j::js else j::ins i js:=rfl
theorem fset_cons {f:Nat} {v:V} {e:Nat×V} {es:List (Nat×V)}:fset f v (e::es)=if e.1 == f then (f,v)::es else e::fset f v es:=rfl
theorem nodup_length {α:Type} [BEq α] [LawfulBEq α] {l:List α}:∀ {m:List α},l.Nodup→(∀ a,a∈l→a∈m)→l.length≤m.length:=by
  induction l with
  | nil=>exact fun _ _=>Nat.zero_le _
  | cons a l ih =>
    intro m nd hs
    have nd:=List.nodup_cons.mp nd
    have ha:=hs a (.head _)
    have:=ih (m:=m.erase a) nd.2 fun b hb=>(List.mem_erase_of_ne fun (e:b=a)=>nd.1 (e▸hb)).mpr (hs b (.tail _ hb))
    rw [List.length_erase_of_mem ha] at this
    have:0 < m.length:=List.length_pos_of_mem ha
    rw [List.length_cons]; lia
end Mine
end
section
open PySem
namespace Mine
inductive GV where
  | val (v:V) | fn (i:Nat) | cls (i:Nat) | bi (n:Nat)
noncomputable def bLen:Nat:=0
noncomputable def bSorted:Nat:=1
noncomputable def bMin:Nat:=2
noncomputable def bAny:Nat:=3
noncomputable def bRange:Nat:=4
structure Cx where
  names:List (Str×NameKind)
  sl:List (Str×Nat)
  n:Nat
structure Wd where
  g:List (Str×GV)
  nm:List Str
noncomputable def idxOf (x:Str):List Str→Nat→Option Nat
  | [],_=>none
  | y::ys,i=>cond (y == x) (some i) (idxOf x ys (i + 1))
noncomputable def Wd.attr (W:Wd) (a:Str):Option Nat:=idxOf a W.nm 0
noncomputable def glob (W:Wd) (Γ:Cx) (x:Str):Option GV:=cond (Γ.names.lookup x == some .globalImplicit) (W.g.lookup x) none
noncomputable def compCx (Γ:Cx) (x:Str) (sc:Scope):Cx :=
  { names:=sc.names.map (fun p=>if p.2 == .free then (p.1,.cell) else p),sl:=(x,Γ.n)::Γ.sl.filter (fun p=>p.1 != x && sc.names.lookup p.1 == some .free),n:=Γ.n + 1 }
noncomputable def compOk (Γ:Cx) (x:Str) (sc:Scope):Bool :=
  sc.kind == .function && (sc.names.lookup x == some .local || sc.names.lookup x == some .cell) && sc.names.all (fun p=>p.1 == x || p.1 == (".0":Str) && p.2 == .local || p.2 == .globalImplicit || p.2 == .free && Γ.names.lookup p.1 == some .cell && (Γ.sl.lookup p.1).isSome)
    && x != (".0":Str) && decide ((sc.names.map (·.1)).Nodup) && !sc.isCoroutine && !sc.isGenerator
noncomputable def isCall0:PySem.Expr→Bool
  | .Call (.Name _ _) [] [] _=>true
  | _=>false
noncomputable def notStar (e:PySem.Expr):Bool:=!Nat.beq e.ctorIdx 22
noncomputable def plainArgs (es:List PySem.Expr):Bool:=es.all notStar && decide (es.length < 20)
noncomputable def isSliceE (e:PySem.Expr):Bool:=Nat.beq e.ctorIdx 26
noncomputable def isComp (e:PySem.Expr):Bool:=Nat.beq e.ctorIdx 8
noncomputable def isTupleE (e:PySem.Expr):Bool:=Nat.beq e.ctorIdx 25
noncomputable def nameCall:PySem.Expr→Option (Str×List PySem.Expr)
  | .Call f args kws _=>match kws with
    | []=>match f with
      | .Name r _=>some (r,args)
      | _=>none
    | _=>none
  | _=>none
section
variable (W:Wd) (Γ:Cx)
noncomputable def withAttr (a:Str) (f:Nat→X):X:=match W.attr a with
  | some i=>f i
  | none=>.bad
variable (t:PySem.Expr→X)
noncomputable def trSrc (iter:PySem.Expr):Bool×List X:=match nameCall iter with
  | some p=>match Γ.sl.lookup p.1 with
    | none=>match glob W Γ p.1 with
      | some (.bi n)=>cond (n == bRange && !(p.1 == ("__debug__":Str)) && plainArgs p.2) (true,p.2.map t) (false,[t iter])
      | _=>(false,[t iter])
    | some _=>(false,[t iter])
  | none=>(false,[t iter])
noncomputable def trConst:Const→X
  | .none=>.const .none
  | .bool b=>.const (.bool b)
  | .int i=>.const (.int i)
  | .bytes b=>.const (.bytes b)
  | _=>.bad
noncomputable def trName (x:Str):X:=match Γ.sl.lookup x with
  | some i=>.loc i
  | none=>match glob W Γ x with
    | some (.val v)=>.const v
    | _=>.bad
noncomputable def trBi (b:Nat) (args:List PySem.Expr):X:=match args with
  | []=>.bad
  | a::r=>match r with
    | []=>cond (b == bLen) (.len (t a)) (cond (b == bSorted) (.sorted (t a)) (cond (b == bAny) (.any (t a)) .bad))
    | c::q=>match q with
      | []=>cond (b == bMin) (.min (t a) (t c)) .bad
      | _::_=>.bad
noncomputable def trNamed (args:List PySem.Expr):GV→X
  | .fn i=>.call i (args.map t)
  | .cls c=>.new c (args.map t)
  | .bi b=>trBi t b args
  | .val _=>.bad
noncomputable def trMeth (o:PySem.Expr) (a:Str) (args:List PySem.Expr):X:=match args with
  | []=>cond (a == ("pop":Str)) (.pop (t o)) (cond (a == ("reverse":Str)) (.reverse (t o)) (withAttr W a fun m=>.meth (t o) m (args.map t)))
  | x::r=>match r with
    | []=>cond (a == ("append":Str)) (.append (t o) (t x)) (cond (a == ("pop":Str)) (.pop0 (t o) (t x)) (withAttr W a fun m=>.meth (t o) m (args.map t)))
    | _::_=>withAttr W a fun m=>.meth (t o) m (args.map t)
noncomputable def trCall (f:PySem.Expr) (args:List PySem.Expr) (pos:Pos):X:=match f with
  | .Attribute o a apos=>cond (apos.endLine == pos.line && !isCall0 o && plainArgs args) (trMeth W t o a args) .bad
  | .Name x _=>cond (plainArgs args && !(x == ("__debug__":Str))) (match Γ.sl.lookup x with
    | none=>match glob W Γ x with
      | some g=>trNamed t args g
      | none=>.bad
    | some _=>.bad) .bad
  | _=>.bad
noncomputable def trUn (x:X):UnaryOp→X
  | .Not=>.not x
  | .USub=>.neg x
  | _=>.bad
noncomputable def trCmp (l:PySem.Expr) (ops:List CmpOp) (rs:List PySem.Expr):X:=match ops with
  | []=>.bad
  | op::o=>match o with
    | _::_=>.bad
    | []=>match rs with
      | []=>.bad
      | r::q=>match q with
        | _::_=>.bad
        | []=>cond (behindInMarks op r) .bad (.cmp op (t l) (t r))
noncomputable def trDict1 (t:PySem.Expr→X) (k:PySem.Expr) (vs:List PySem.Expr):X:=match vs with
  | []=>.bad
  | v::r=>match r with
    | []=>.dict [t k] [t v]
    | _::_=>.bad
noncomputable def trDict2 (t:PySem.Expr→X) (k l:PySem.Expr) (vs:List PySem.Expr):X:=match vs with
  | []=>.bad
  | v::r=>match r with
    | []=>.bad
    | w::q=>match q with
      | []=>.dict [t k,t l] [t v,t w]
      | _::_=>.bad
noncomputable def trDict (t:PySem.Expr→X) (ks:List (Option PySem.Expr)) (vs:List PySem.Expr):X:=match ks with
  | []=>match vs with
    | []=>.dict [] []
    | _::_=>.bad
  | k::r=>match k with
    | none=>.bad
    | some k=>match r with
      | []=>trDict1 t k vs
      | l::q=>match l with
        | none=>.bad
        | some l=>match q with
          | []=>trDict2 t k l vs
          | _::_=>.bad
noncomputable def trSub (o i:PySem.Expr):X:=match i with
  | .Slice lo hi st _=>match st with
    | none=>.slice (t o) (lo.map t) (hi.map t)
    | some _=>.bad
  | _=>.sub (t o) (t i)
end
noncomputable def trIfs (t:PySem.Expr→X):List PySem.Expr→Option (Option X)
  | []=>some none
  | c::r=>match r with
    | []=>some (some (t c))
    | _::_=>none
noncomputable def trGen (W:Wd) (t:Cx→PySem.Expr→X) (Γ:Cx) (elt:PySem.Expr) (sc:Scope) (iter:PySem.Expr) (ifs:List PySem.Expr) (x:Str):X :=
  cond (compOk Γ x sc) (match trIfs (t (compCx Γ x sc)) ifs with
    | some c=>.comp (t (compCx Γ x sc) elt) (trSrc W Γ (t Γ) iter).1 (trSrc W Γ (t Γ) iter).2 c
    | none=>.bad) .bad
noncomputable def trComp (W:Wd) (t:Cx→PySem.Expr→X) (Γ:Cx) (elt:PySem.Expr) (sc:Scope) (gens:List Comprehension):X:=match gens with
  | []=>.bad
  | g::r=>match r with
    | _::_=>.bad
    | []=>match g with
      | ⟨tg,iter,ifs,a⟩=>match tg,a with
        | .Name x _,0=>trGen W t Γ elt sc iter ifs x
        | _,_=>.bad
noncomputable def stepTr (W:Wd) (t:Cx→PySem.Expr→X) (Γ:Cx) (e:PySem.Expr):X:=match e with
  | .Constant c _ _=>trConst c
  | .Name x _=>cond (x == ("__debug__":Str)) .bad (trName W Γ x)
  | .Attribute o a _=>cond (isCall0 o) .bad (withAttr W a fun f=>.attr (t Γ o) f)
  | .Call f args kws pos=>match kws with
    | []=>trCall W Γ (t Γ) f args pos
    | _::_=>.bad
  | .BinOp l op r _=>.bin op (t Γ l) (t Γ r)
  | .UnaryOp op x _=>trUn (t Γ x) op
  | .BoolOp op es _=>.bop (op == .And) (es.map (t Γ))
  | .Compare l ops rs _=>trCmp (t Γ) l ops rs
  | .Tuple es _ _=>cond (plainArgs es) (.tup (es.map (t Γ))) .bad
  | .List es _=>cond (plainArgs es) (.list (es.map (t Γ))) .bad
  | .Dict ks vs _=>trDict (t Γ) ks vs
  | .Subscript o i _=>trSub (t Γ) o i
  | .ListComp elt gens sc _=>trComp W t Γ elt sc gens
  | _=>.bad
noncomputable def tr (W:Wd):Nat→Cx→PySem.Expr→X
  | 0=>fun _ _=>.bad
  | k + 1=>stepTr W (tr W k)
noncomputable def unpackSlots (Γ:Cx):List PySem.Expr→Option (List Nat)
  | []=>some []
  | e::es=>match e with
    | .Name x _=>match Γ.sl.lookup x,unpackSlots Γ es with
      | some i,some is=>some (i::is)
      | _,_=>none
    | _=>none
section
variable (W:Wd) (Γ:Cx) (t:PySem.Expr→X)
noncomputable def withAttrS (a:Str) (f:Nat→S):S:=match W.attr a with
  | some i=>f i
  | none=>.bad
noncomputable def withSlot (x:Str) (f:Nat→S):S:=match Γ.sl.lookup x with
  | some i=>f i
  | none=>.bad
noncomputable def trAsg (e:PySem.Expr):PySem.Expr→S
  | .Name x _=>withSlot Γ x fun i=>.asg i (t e)
  | .Attribute o a _=>cond (isComp e) .bad (withAttrS W a fun f=>.setattr (t o) f (t e))
  | .Subscript o i _=>cond (isComp e || isSliceE i) .bad (.setitem (t o) (t i) (t e))
  | .Tuple ts _ _=>cond (isComp e || isTupleE e) .bad (match unpackSlots Γ ts with
    | some is=>.unpack is (t e)
    | none=>.bad)
  | _=>.bad
noncomputable def trAug (op:Operator) (e:PySem.Expr):PySem.Expr→S
  | .Name x _=>withSlot Γ x fun i=>.augName i op (t e)
  | .Attribute o a _=>withAttrS W a fun f=>.augAttr (t o) f op (t e)
  | .Subscript o i _=>cond (isSliceE i) .bad (.augItem (t o) (t i) op (t e))
  | _=>.bad
noncomputable def trFor (tg iter:PySem.Expr) (b:List S):S:=match tg with
  | .Name x _=>withSlot Γ x fun i=>.forr i (trSrc W Γ t iter).1 (trSrc W Γ t iter).2 b
  | _=>.bad
noncomputable def stepTS (s:PySem.Stmt→S) (st:PySem.Stmt):S:=match st with
  | .Pass _=>.pass
  | .Continue _=>.cont
  | .Return e _=>match e with
    | some e=>.ret (t e)
    | none=>.ret (.const .none)
  | .Expr e _=>cond (isComp e) .bad (.expr (t e))
  | .Assign ts e _=>match ts with
    | []=>.bad
    | g::r=>match r with
      | []=>trAsg W Γ t e g
      | _::_=>.bad
  | .AugAssign g op e _=>trAug W Γ t op e g
  | .If c b e _=>.ite (t c) (b.map s) (e.map s)
  | .While c b o _=>match o with
    | []=>.while (t c) (b.map s)
    | _::_=>.bad
  | .For g iter b o _=>match o with
    | []=>trFor W Γ t g iter (b.map s)
    | _::_=>.bad
  | _=>.bad
end
noncomputable def trS (W:Wd) (Γ:Cx):Nat→PySem.Stmt→S
  | 0=>fun _=>.bad
  | k + 1=>stepTS W Γ (tr W k Γ) (trS W Γ k)
noncomputable def slotsFrom:List Str→Nat→List (Str×Nat)
  | [],_=>[]
  | x::xs,i=>(x,i)::slotsFrom xs (i + 1)
noncomputable def slotNames (pars:List Str) (names:List (Str×NameKind)):List Str :=
  pars++(names.filter fun p=>(p.2 == .local || p.2 == .cell) && !pars.contains p.1).map (·.1)
noncomputable def fnCx (pars:List Str) (sc:Scope):Cx :=
  { names:=sc.names,sl:=slotsFrom (slotNames pars sc.names) 0,n:=(slotNames pars sc.names).length }
end Mine
end
section
open PySem PySem.W PySem.Calls PyProof.Rows
namespace Mine
section
variable {K:Type} [DecidableEq K]
theorem valueAt_cons (a:K×Value) (l:List (K×Value)) (j:K):valueAt (a::l) j=if a.1=j then some a.2 else valueAt l j:=by
  unfold valueAt
  rw [List.find?_cons]
  by_cases h:a.1=j
  · rw [if_pos h]; simp [h]
  · rw [if_neg h]; simp [h]
theorem val_put (k:K) (v:Value) (j:K) (kvs:List (K×Value)):valueAt (kvs.map fun kv=>if kv.1=k then (kv.1,v) else kv) j=if j=k then (if kvs.any (fun kv=>kv.1=k)=true then some v else none) else valueAt kvs j:=by
  induction kvs with
  | nil=>by_cases e:j=k<;>simp [valueAt,e]
  | cons a r ih =>
    rw [List.map_cons,valueAt_cons,ih,valueAt_cons]
    by_cases h1:a.1=k<;>by_cases h2:j=k
    · subst h2; simp [h1]
    · rw [if_pos h1]; simp [h1,h2,show ¬ k=j from fun e=>h2 e.symm]
    · subst h2; rw [if_neg h1,if_pos rfl,if_pos rfl,List.any_cons,decide_eq_false h1,Bool.false_or,if_neg h1]
    · rw [if_neg h1,if_neg h2,if_neg h2]
theorem val_app (k:K) (v:Value) (j:K) (kvs:List (K×Value)) (hn:kvs.any (fun kv=>kv.1=k)=false):valueAt (kvs++[(k,v)]) j=if j=k then some v else valueAt kvs j:=by
  induction kvs with
  | nil=>rw [List.nil_append,valueAt_cons]; by_cases e:k=j<;>simp [valueAt,e,eq_comm]
  | cons a r ih =>
    rw [List.any_cons,Bool.or_eq_false_iff] at hn
    rw [List.cons_append,valueAt_cons,ih hn.2,valueAt_cons]
    have h1:¬ a.1=k:=by simpa using hn.1
    by_cases h2:j=k
    · subst h2; simp [h1]
    · rw [if_neg h2,if_neg h2]
theorem valueAt_stored (kvs:List (K×Value)) (k:K) (v:Value) (j:K):valueAt (stored kvs k v) j=if j=k then some v else valueAt kvs j:=by
  unfold stored
  by_cases h:kvs.any (fun kv=>kv.1=k)=true
  · rw [if_pos h,val_put,if_pos h]
  · rw [if_neg h]; exact val_app k v j kvs (Bool.eq_false_iff.mpr h)
noncomputable def flat (x:K×Addr×Value):K×Value:=(x.1,x.2.2)
theorem atKey_flat (xs:List (K×Addr×Value)) (k:K):(atKey xs k).map (·.2)=valueAt (xs.map flat) k:=by
  induction xs with
  | nil=>rfl
  | cons a r ih =>
    rw [List.map_cons,valueAt_cons,← ih]
    unfold atKey
    rw [List.find?_cons]
    by_cases h:a.1=k
    · simp [h,flat]
    · simp [h,flat]
theorem atKey_storedH (xs:List (K×Addr×Value)) (k:K) (a:Addr) (v:Value) (j:K):(atKey (storedH xs k a v) j).map (·.2)=if j=k then some v else (atKey xs j).map (·.2):=by
  rw [atKey_flat,atKey_flat]
  rcases h:atKey xs k with _ | p
  · rw [storedH_new h,List.map_append]
    refine val_app k v j _ ?_
    have:valueAt (xs.map flat) k=none:=by rw [← atKey_flat,h]; rfl
    unfold valueAt at this
    have:=List.find?_eq_none.mp (Option.map_eq_none_iff.mp this)
    rw [List.any_eq_false]; exact this
  · rw [storedH_old h]
    have e:(xs.map (putAt k v)).map flat=(xs.map flat).map fun kv=>if kv.1=k then (kv.1,v) else kv:=by
      rw [List.map_map,List.map_map]
      refine List.map_congr_left fun x _=>?_
      show flat (putAt k v x)=_
      unfold putAt
      by_cases h:x.1=k<;>simp [h,flat]
    rw [e,val_put]
    have:(xs.map flat).any (fun kv=>kv.1=k)=true:=by
      unfold atKey at h
      obtain ⟨y,hy,_⟩:=Option.map_eq_some_iff.mp h
      have h1:=List.mem_of_find?_eq_some hy
      have h2:=List.find?_some hy
      rw [List.any_map,List.any_eq_true]
      exact ⟨y,h1,h2⟩
    rw [if_pos this]
theorem storedH_length (xs:List (K×Addr×Value)) (k:K) (a:Addr) (v:Value):(storedH xs k a v).length≤xs.length + 1:=by
  rcases h:atKey xs k with _ | p
  · rw [storedH_new h]; simp
  · rw [storedH_old h]; simp
end
end Mine
end
set_option tactic.hygienic false
section
open PySem PySem.W PyProof.Rows
namespace Mine
inductive All2 {α β:Type} (R:α→β→Prop):List α→List β→Prop
  | nil:All2 R [] []
  | cons {a:α} {b:β} {as:List α} {bs:List β}:R a b→All2 R as bs→All2 R (a::as) (b::bs)
section
variable {α β:Type} {R S:α→β→Prop} {as cs:List α} {bs ds:List β}
theorem All2.mono (h:All2 R as bs) (k:∀ a b,R a b→S a b):All2 S as bs:=by
  induction h with
  | nil=>exact .nil
  | cons x _ ih=>exact .cons (k _ _ x) ih
theorem All2.monoM (h:All2 R as bs) (k:∀ a b,b∈bs→R a b→S a b):All2 S as bs:=by
  induction h with
  | nil=>exact .nil
  | cons x _ ih=>exact .cons (k _ _ (.head _) x) (ih fun a b m=>k a b (.tail _ m))
theorem All2.upd (h:All2 R as bs) {r:Nat} {a:α} {b:β} (e:bs[r]?=some b) (n:S a b) (k:∀ i x y,bs[i]?=some y→i≠r→R x y→S x y):All2 S (as.set r a) bs:=by
  induction h generalizing r with
  | nil=>cases e
  | cons x t ih =>
    cases r with
    | zero=>cases e; exact .cons n (t.monoM fun x y m q=>let ⟨i,hi,e⟩:=List.getElem_of_mem m; k (i + 1) x y ((List.getElem?_eq_getElem hi).trans (congrArg some e)) (Nat.succ_ne_zero i) q)
    | succ r=>exact .cons (k 0 _ _ rfl (Nat.succ_ne_zero r).symm x) (ih e fun i x y m ne q=>k (i + 1) x y m (fun e=>ne (Nat.succ.inj e)) q)
theorem All2.length (h:All2 R as bs):as.length=bs.length:=by
  induction h with
  | nil=>rfl
  | cons _ _ ih=>exact congrArg (· + 1) ih
theorem All2.append (h:All2 R as bs) (k:All2 R cs ds):All2 R (as++cs) (bs++ds):=by
  induction h with
  | nil=>exact k
  | cons x _ ih=>exact .cons x ih
theorem All2.get' (h:All2 R as bs) {i:Nat} {a:α} (e:as[i]?=some a):∃ b,bs[i]?=some b∧R a b:=by
  induction h generalizing i with
  | nil=>cases e
  | cons x _ ih =>
    cases i with
    | zero=>cases e; exact ⟨_,rfl,x⟩
    | succ i=>exact ih e
theorem All2.get (h:All2 R as bs) {i:Nat} {b:β} (e:bs[i]?=some b):∃ a,as[i]?=some a∧R a b:=by
  induction h generalizing i with
  | nil=>cases e
  | cons x _ ih =>
    cases i with
    | zero=>cases e; exact ⟨_,rfl,x⟩
    | succ i=>exact ih e
theorem All2.set (h:All2 R as bs) (i:Nat) {a:α} {b:β} (r:R a b):All2 R (as.set i a) (bs.set i b):=by
  induction h generalizing i with
  | nil=>exact .nil
  | cons x t ih =>
    cases i with
    | zero=>exact .cons r t
    | succ i=>exact .cons x (ih i)
theorem All2.eraseIdx (h:All2 R as bs) (i:Nat):All2 R (as.eraseIdx i) (bs.eraseIdx i):=by
  induction h generalizing i with
  | nil=>exact .nil
  | cons x t ih =>
    cases i with
    | zero=>exact t
    | succ i=>exact .cons x (ih i)
theorem All2.reverse (h:All2 R as bs):All2 R as.reverse bs.reverse:=by
  induction h with
  | nil=>exact .nil
  | cons x t ih=>rw [List.reverse_cons,List.reverse_cons]; exact ih.append (.cons x .nil)
theorem All2.take (h:All2 R as bs) (n:Nat):All2 R (as.take n) (bs.take n):=by
  induction h generalizing n with
  | nil=>cases n<;>exact .nil
  | cons x t ih =>
    cases n with
    | zero=>exact .nil
    | succ n=>exact .cons x (ih n)
theorem All2.drop (h:All2 R as bs) (n:Nat):All2 R (as.drop n) (bs.drop n):=by
  induction h generalizing n with
  | nil=>cases n<;>exact .nil
  | cons x t ih =>
    cases n with
    | zero=>exact .cons x t
    | succ n=>exact ih n
end
noncomputable abbrev Phi:=List (Addr×Addr)
noncomputable def Ad (p:Addr×Addr) (a:Addr):Prop:=a=p.1∨a=p.2
noncomputable def Own (φ:Phi) (a:Addr):Prop:=∃ p,p∈φ∧Ad p a
noncomputable def LstAt (h:Heap) (a:Addr) (ws:Array Value) (n:Nat):Prop:=h.get? a=some { cls:=.type "list",data:=.seq ws n }
noncomputable def SeqOb (h:Heap) (a:Addr):Prop:=∃ o ws n,h.get? a=some o∧o.data=.seq ws n
inductive SqAt (φ:Phi) (h:Heap) (t:String) (R:List Value→Prop):Value→Prop
  | mk (a:Addr) (ws:Array Value) (n:Nat):h.get? a=some { cls:=.type t,data:=.seq ws n }→¬ Own φ a→R ws.toList→SqAt φ h t R (.ref a)
inductive LsAt (φ:Phi) (h:Heap) (R:List Value→Prop):Value→Prop
  | mk (a:Addr) (ws:Array Value) (n:Nat):h.IsList a ws→¬ Own φ a→R ws.toList→LsAt φ h R (.ref a)
mutual
noncomputable def VR (φ:Phi) (h:Heap):V→Value→Prop
  | .none,w=>w=.none
  | .bool b,w=>w=.bool b
  | .int i,w=>∃ t,w=.int i t
  | .bytes b,w=>∃ t,w=.bytes b.toArray t
  | .tup vs,w=>SqAt φ h "tuple" (VRs φ h vs) w
  | .lst vs,w=>LsAt φ h (VRs φ h vs) w
  | .ref r,w=>∃ p,φ[r]?=some p∧w=.ref p.1
noncomputable def VRs (φ:Phi) (h:Heap):List V→List Value→Prop
  | [],ws=>ws=[]
  | v::vs,ws=>∃ w ws',ws=w::ws'∧VR φ h v w∧VRs φ h vs ws'
end
theorem VRs.all {φ:Phi} {h:Heap} {vs:List V}:∀ {ws:List Value},VRs φ h vs ws→All2 (VR φ h) vs ws:=by
  induction vs with
  | nil=>intro ws q; cases (show ws=[] from q); exact .nil
  | cons v vs ih=>intro ws q; obtain ⟨w,ws',rfl,a,b⟩:=q; exact .cons a (ih b)
theorem VRs.of {φ:Phi} {h:Heap} {vs:List V} {ws:List Value} (q:All2 (VR φ h) vs ws):VRs φ h vs ws:=by
  induction q with
  | nil=>exact (rfl:[]=[])
  | cons a _ ih=>exact ⟨_,_,rfl,a,ih⟩
structure Ctx where
  prog:Program
  w:World
  K:Frag
  T:Tab
  W:Wd
  h₀:Heap
  fa:List Addr
  ca:List Addr
  st:∃ o,h₀.get? cStatics=some o
noncomputable def FR (nm:List Str) (φ:Phi) (h:Heap) (p:Nat×V) (e:DictEntry):Prop:=∃ x t,nm[p.1]?=some x∧e.key=.str x t∧VR φ h p.2 e.val
noncomputable def MR (φ:Phi) (h:Heap):Option V→Option Value→Prop
  | none,none=>True
  | some v,some w=>VR φ h v w
  | _,_=>False
inductive OL (φ:Phi) (h:Heap) (vs:List V) (p:Addr×Addr):Prop
  | mk (ws:Array Value) (n:Nat):LstAt h p.1 ws n→vs.length≤2 * lim→p.2=p.1→All2 (VR φ h) vs ws.toList→OL φ h vs p
inductive OD (C:Ctx) (φ:Phi) (h:Heap) (es:List (Int×V)) (p:Addr×Addr):Prop
  | mk (ka:List (Int×Value)):h.DictOf (intKind C.prog C.w) p.1 ka→ka.length≤es.length→es.length≤2 * lim→p.2=p.1→(∀ k,MR φ h (dget k es) (valueAt ka k))→OD C φ h es p
inductive OT (C:Ctx) (φ:Phi) (h:Heap) (es:List (List Int×V)) (p:Addr×Addr):Prop
  | mk (xs:List (List Int×Addr×Value)):h.DictOfH (tupleKind (intKind C.prog C.w)) p.1 xs→xs.length≤es.length→es.length≤2 * lim→p.2=p.1→(∀ x∈xs,¬ Own φ x.2.1)→(∀ k,MR φ h (tget k es) ((atKey xs k).map (·.2)))→OT C φ h es p
inductive OI (C:Ctx) (φ:Phi) (h:Heap) (c:Nat) (fs:List (Nat×V)) (p:Addr×Addr):Prop
  | mk (ci:CI) (a:Addr) (ds:List DictEntry) (n:Nat):C.T.cls[c]?=some ci→C.ca[c]?=some a→h.get? p.1=some (instObj a p.2)→h.get? p.2=some (dictOf ds n)→p.1≠p.2 →
    (∀ e,e∈fs→e.1∈ci.fields)→(fs.map (·.1)).Nodup→All2 (FR C.W.nm φ h) fs ds→OI C φ h c fs p
noncomputable def OR (C:Ctx) (φ:Phi) (h:Heap):O→Addr×Addr→Prop
  | .list vs=>OL φ h vs
  | .dict es=>OD C φ h es
  | .tdict es=>OT C φ h es
  | .inst c fs=>OI C φ h c fs
structure HR (C:Ctx) (φ:Phi) (h:Heap) (H:Hp):Prop where
  obj:All2 (OR C φ h) H φ
  inj:∀ (i j:Nat) (p q:Addr×Addr) (a:Addr),φ[i]?=some p→φ[j]?=some q→Ad p a→Ad q a→i=j
structure New (h:Heap) (a:Addr):Prop where
  no:h.get? a=none
  lo:sysModules < a
structure Step (ex:Addr→Prop) (φ:Phi) (h:Heap) (φ':Phi) (h':Heap):Prop where
  pre:∃ ψ,φ'=φ++ψ∧∀ p,p∈ψ→New h p.1∧New h p.2
  keep:∀ a o,h.get? a=some o→¬ Own φ a→¬ ex a→h'.get? a=some o
theorem Own.ext {φ ψ:Phi} {a:Addr} (x:Own (φ++ψ) a):Own φ a∨Own ψ a :=
  let ⟨p,hp,e⟩:=x
  (List.mem_append.mp hp).imp (fun q=>⟨p,q,e⟩) fun q=>⟨p,q,e⟩
section
variable {ex:Addr→Prop} {φ φ' φ'':Phi} {h h' h'':Heap}
theorem Step.of_keeps (hk:∀ a o,h.get? a=some o→h'.get? a=some o):Step ex φ h φ h':=⟨⟨[],(List.append_nil φ).symm,nofun⟩,fun a o e _ _=>hk a o e⟩
theorem Step.look (S:Step ex φ h φ' h') {i:Nat} {p:Addr×Addr} (e:φ[i]?=some p):φ'[i]?=some p:=by
  obtain ⟨ψ,rfl,_⟩:=S.pre
  exact (List.getElem?_append_left (List.getElem?_eq_some_iff.mp e).1).trans e
theorem Step.notOwn (S:Step ex φ h φ' h') {a:Addr} {o:Obj} (e:h.get? a=some o) (n:¬ Own φ a):¬ Own φ' a:=by
  obtain ⟨ψ,rfl,hn⟩:=S.pre
  intro x
  rcases x.ext with q | ⟨p,hp,rfl | rfl⟩
  · exact n q
  · exact nS ((hn p hp).1.no.symm.trans e)
  · exact nS ((hn p hp).2.no.symm.trans e)
theorem Step.mono {ex':Addr→Prop} (S:Step ex φ h φ' h') (hx:∀ a o,h.get? a=some o→ex a→ex' a):Step ex' φ h φ' h' :=
  ⟨S.pre,fun a o e n x=>S.keep a o e n fun y=>x (hx a o e y)⟩
noncomputable def Qt (h:Heap) (ex:Addr→Prop):Prop:=∀ a,SeqOb h a→¬ ex a
theorem SqAt.step (S:Step ex φ h φ' h') (hx:Qt h ex) {t:String} {R R':List Value→Prop} {u:Value} (q:SqAt φ h t R u) (k:∀ ws,R ws→R' ws):SqAt φ' h' t R' u:=by
  obtain ⟨a,ws,n,e,no,r⟩:=q
  exact ⟨a,ws,n,S.keep a _ e no (hx a ⟨_,ws,n,e,rfl⟩),S.notOwn e no,k _ r⟩
theorem LsAt.step (S:Step ex φ h φ' h') (hx:Qt h ex) {R R':List Value→Prop} {u:Value} (q:LsAt φ h R u) (k:∀ ws,R ws→R' ws):LsAt φ' h' R' u:=by
  obtain ⟨a,ws,n,⟨o,e,hc,m,hd⟩,no,r⟩:=q
  exact ⟨a,ws,n,⟨o,S.keep a _ e no (hx a ⟨_,ws,m,e,hd⟩),hc,m,hd⟩,S.notOwn e no,k _ r⟩
mutual
theorem VR.step (S:Step ex φ h φ' h') (hx:Qt h ex):∀ {v:V} {w:Value},VR φ h v w→VR φ' h' v w
  | .none,w,q=>q
  | .bool b,w,q=>q
  | .int i,w,q=>q
  | .bytes b,w,q=>q
  | .tup vs,w,q=>SqAt.step S hx q fun _ r=>VRs.step S hx r
  | .lst vs,w,q=>LsAt.step S hx q fun _ r=>VRs.step S hx r
  | .ref r,w,q=>let ⟨p,hp,e⟩:=q; ⟨p,S.look hp,e⟩
theorem VRs.step (S:Step ex φ h φ' h') (hx:Qt h ex):∀ {vs:List V} {ws:List Value},VRs φ h vs ws→VRs φ' h' vs ws
  | [],ws,q=>q
  | v::vs,ws,q=>let ⟨w,ws',e,a,r⟩:=q; ⟨w,ws',e,VR.step S hx a,VRs.step S hx r⟩
end
theorem MR.step (S:Step ex φ h φ' h') (hx:Qt h ex) {v:Option V} {w:Option Value} (q:MR φ h v w):MR φ' h' v w:=by
  cases v<;>cases w<;>first | exact q | exact VR.step S hx q
theorem OR.step {C:Ctx} (S:Step ex φ h φ' h') (hx:Qt h ex) {o:O} {p:Addr×Addr} (q:OR C φ h o p) (k:∀ a x,Ad p a→h.get? a=some x→h'.get? a=some x):OR C φ' h' o p:=by
  cases o with
  | list vs=>obtain ⟨ws,n,e,l,e',r⟩:=q; exact ⟨ws,n,k _ _ (.inl rfl) e,l,e',r.mono fun _ _=>VR.step S hx⟩
  | dict es=>obtain ⟨ka,⟨o,ds,n,ho,hm⟩,dl,l,e,r⟩:=q; exact ⟨ka,⟨o,ds,n,k _ _ (.inl rfl) ho,hm⟩,dl,l,e,fun i=>(r i).step S hx⟩
  | tdict es =>
    obtain ⟨xs,⟨o,ds,n,ho,h1,h2,h3,h4,h5⟩,dl,l,e,no,r⟩:=q
    refine ⟨xs,⟨o,ds,n,k _ _ (.inl rfl) ho,h1,h2,h3,fun x hx'=>?_,h5⟩,dl,l,e,fun x hx'=>?_,fun i=>(r i).step S hx⟩
    · obtain ⟨o',items,m,a,b,c,d⟩:=h4 x hx'
      exact ⟨o',items,m,S.keep _ _ a (no x hx') (hx _ ⟨o',items,m,a,c⟩),b,c,d⟩
    · obtain ⟨o',items,m,a,b,c,d⟩:=h4 x hx'
      exact S.notOwn a (no x hx')
  | inst c fs=>obtain ⟨ci,a,ds,n,e1,e2,e3,e4,ne,ff,nd,r⟩:=q; exact ⟨ci,a,ds,n,e1,e2,k _ _ (.inl rfl) e3,k _ _ (.inr rfl) e4,ne,ff,nd,r.mono fun _ _ ⟨x,t,a,b,c⟩=>⟨x,t,a,b,c.step S hx⟩⟩
theorem OR.live {C:Ctx} {o:O} {p:Addr×Addr} (q:OR C φ h o p) {a:Addr} (d:Ad p a):∃ x,h.get? a=some x:=by
  cases o with
  | list vs=>obtain ⟨ws,n,e,l,e',r⟩:=q; exact ⟨_,d.elim (·▸e) (fun z=>z.trans e'▸e)⟩
  | dict es=>obtain ⟨ka,⟨o,ds,n,ho,hm⟩,dl,l,e,r⟩:=q; exact ⟨_,d.elim (·▸ho) (fun z=>z.trans e▸ho)⟩
  | tdict es=>obtain ⟨xs,⟨o,ds,n,ho,hm⟩,dl,l,e,no,r⟩:=q; exact ⟨_,d.elim (·▸ho) (fun z=>z.trans e▸ho)⟩
  | inst c fs =>
    obtain ⟨ci,x,ds,n,e1,e2,e3,e4,_⟩:=q
    rcases d with d | d
    · exact ⟨_,d▸e3⟩
    · exact ⟨_,d▸e4⟩
end
end Mine
end
section
open PySem PySem.W PySem.Calls PyProof.Rows
namespace Mine
noncomputable def no:Addr→Prop:=fun _=>False
theorem no_seq {h:Heap}:Qt h no:=fun _ _ x=>x
structure Wo where
  φ:Phi
  s:Shared
  H:Hp
noncomputable abbrev Wo.h (σ:Wo):Heap:=σ.s.heap
noncomputable def Sh.on (s:Shared) (h:Heap) (tk:Nat):Shared:={ s with heap:=h,toks:=tk }
noncomputable def Sh.tk (s:Shared) (tk:Nat):Shared:={ s with toks:=tk }
noncomputable def Wo.at (σ:Wo) (h:Heap) (tk:Nat):Wo:=⟨σ.φ,Sh.on σ.s h tk,σ.H⟩
structure Inv (C:Ctx) (σ:Wo):Prop where
  hr:HR C σ.φ σ.h σ.H
  base:∀ b o,C.h₀.get? b=some o→σ.h.get? b=some o
  new:∀ a,Own σ.φ a→C.h₀.get? a=none
  lo:∀ a,Own σ.φ a→sysModules < a
structure Le (C:Ctx) (ex:Addr→Prop) (σ σ':Wo):Prop where
  sh:∃ h tk,σ'.s=Sh.on σ.s h tk
  st:Step ex σ.φ σ.h σ'.φ σ'.h
  live:∀ a o,σ.h.get? a=some o→∃ o',σ'.h.get? a=some o'
  inv:Inv C σ'
section
variable {C:Ctx} {ex ex':Addr→Prop} {σ σ' σ'':Wo} {h':Heap} {tk:Nat}
theorem Inv.alive (I:Inv C σ) {a:Addr} (n:Own σ.φ a):∃ o,σ.h.get? a=some o:=by
  obtain ⟨p,hp,e⟩:=n
  obtain ⟨i,hi,hp⟩:=List.getElem_of_mem hp
  obtain ⟨o,_,q⟩:=I.hr.obj.get ((List.getElem?_eq_getElem hi).trans (congrArg some hp))
  exact q.live e
theorem Inv.notOwn (I:Inv C σ) {a:Addr} (e:σ.h.get? a=none):¬ Own σ.φ a:=fun n=>by
  obtain ⟨o,h⟩:=I.alive n
  exact nS (e.symm.trans h)
theorem Inv.notBase (I:Inv C σ) {a:Addr} (e:σ.h.get? a=none):C.h₀.get? a=none:=by
  cases z:C.h₀.get? a with
  | none=>rfl
  | some o=>exact nS (e.symm.trans (I.base a o z))
theorem Inv.fresh (I:Inv C σ):New σ.h σ.h.objs.size:=by
  obtain ⟨o,e⟩:=C.st
  exact ⟨Heap.get?_none_of_le (Nat.le_refl _),Nat.lt_trans (by decide:sysModules < cStatics) (Heap.lt_size (I.base _ _ e))⟩
theorem Inv.ne (I:Inv C σ) {a:Addr} (n:Own σ.φ a):(a == sysModules)=false:=beq_eq_false_iff_ne.mpr (Nat.ne_of_gt (I.lo a n))
theorem Le.refl (I:Inv C σ):Le C ex σ σ:=⟨⟨_,_,rfl⟩,Step.of_keeps fun _ _ e=>e,fun _ o e=>⟨o,e⟩,I⟩
theorem Le.trans (a:Le C ex σ σ') (b:Le C ex σ' σ''):Le C ex σ σ'':=by
  obtain ⟨h,tk,e⟩:=a.sh
  obtain ⟨h',tk',e'⟩:=b.sh
  obtain ⟨ψ,e1,hn⟩:=a.st.pre
  obtain ⟨ψ',e2,hn'⟩:=b.st.pre
  refine ⟨⟨h',tk',by rw [e',e]; rfl⟩,⟨⟨ψ++ψ',by rw [e2,e1,List.append_assoc],fun p hp=>?_⟩,fun a' o e n x=>b.st.keep a' o (a.st.keep a' o e n x) (a.st.notOwn e n) x⟩,fun x o e=>?_,b.inv⟩
  · have key:∀ x,σ'.h.get? x=none→σ.h.get? x=none:=fun x hx=>by
      cases z:σ.h.get? x with
      | none=>rfl
      | some o=>obtain ⟨o',e⟩:=a.live x o z; exact nS (hx.symm.trans e)
    exact (List.mem_append.mp hp).elim (hn p) fun q=>(hn' p q).imp (fun z=>⟨key _ z.no,z.lo⟩) fun z=>⟨key _ z.no,z.lo⟩
  · obtain ⟨_,e'⟩:=a.live x o e; exact b.live x _ e'
theorem Le.mono (a:Le C ex σ σ') (hx:∀ a o,σ.h.get? a=some o→ex a→ex' a):Le C ex' σ σ':=⟨a.sh,a.st.mono hx,a.live,a.inv⟩
theorem Le.any (a:Le C no σ σ'):Le C ex σ σ':=a.mono fun _ _ _=>False.elim
theorem VR.le {v:V} {w:Value} (q:VR σ.φ σ.h v w) (a:Le C no σ σ'):VR σ'.φ σ'.h v w:=q.step a.st no_seq
structure Fr (C:Ctx) (σ:Wo) (ex:Addr→Prop):Prop where
  seq:Qt σ.h ex
  own:∀ a,ex a→¬ Own σ.φ a
  base:∀ a,ex a→C.h₀.get? a=none
theorem Fr.no:Fr C σ no:=⟨no_seq,fun _=>False.elim,fun _=>False.elim⟩
theorem Step.at (hk:∀ b o,¬ ex b→σ.h.get? b=some o→h'.get? b=some o):Step ex σ.φ σ.h σ.φ h':=⟨⟨[],(List.append_nil _).symm,nofun⟩,fun a o e _ n=>hk a o n e⟩
theorem Inv.only (I:Inv C σ) (F:Fr C σ ex) (hk:∀ b o,¬ ex b→σ.h.get? b=some o→h'.get? b=some o):Inv C (σ.at h' tk) :=
  ⟨⟨I.hr.obj.monoM fun o p m q=>q.step (Step.at hk) F.seq fun a x d e=>hk a x (fun y=>F.own a y ⟨p,m,d⟩) e,I.hr.inj⟩,fun b o e=>hk b o (fun y=>nS ((F.base b y).symm.trans e)) (I.base b o e),I.new,I.lo⟩
theorem Le.only (I:Inv C σ) (F:Fr C σ ex) (hk:∀ b o,¬ ex b→σ.h.get? b=some o→h'.get? b=some o) (hl:∀ b o,ex b→σ.h.get? b=some o→∃ o',h'.get? b=some o'):Le C ex σ (σ.at h' tk):=by
  refine ⟨⟨h',tk,rfl⟩,Step.at hk,fun b o e=>?_,I.only F hk⟩
  by_cases y:ex b
  · exact hl b o y e
  · exact ⟨o,hk b o y e⟩
theorem Le.move {σ₀:Wo} {ex₀:Addr→Prop} (L:Le C ex₀ σ₀ σ) (F:Fr C σ ex) (hd:∀ a,ex a→σ₀.h.get? a=none) (hk:∀ b o,¬ ex b→σ.h.get? b=some o→h'.get? b=some o):Le C ex₀ σ₀ (σ.at h' tk):=by
  obtain ⟨h,t,e⟩:=L.sh
  have no:∀ {a o},σ₀.h.get? a=some o→¬ ex a:=fun e x=>nS ((hd _ x).symm.trans e)
  exact ⟨⟨h',tk,by show Sh.on σ.s h' tk=_; rw [e]; rfl⟩,⟨L.st.pre,fun a o e n x=>hk a o (no e) (L.st.keep a o e n x)⟩,fun a o e=>let ⟨o',e'⟩:=L.live a o e; ⟨o',hk a o' (no e) e'⟩,L.inv.only F hk⟩
theorem Le.grow (I:Inv C σ) (hk:∀ a o,σ.h.get? a=some o→h'.get? a=some o):Le C ex σ (σ.at h' tk):=(Le.only I Fr.no (fun b o _=>hk b o) fun b o n=>n.elim).any
theorem Le.toks (I:Inv C σ):Le C ex σ (σ.at σ.h tk):=Le.grow I fun _ _ e=>e
theorem Le.owned {φ':Phi} {H':Hp} (I:Inv C σ) (S:Step no σ.φ σ.h φ' h') (hl:∀ a o,σ.h.get? a=some o→∃ o',h'.get? a=some o') (R:HR C φ' h' H'):Le C ex σ ⟨φ',Sh.on σ.s h' tk,H'⟩:=by
  refine Le.any ⟨⟨h',tk,rfl⟩,S,hl,R,fun b o e=>S.keep b o (I.base b o e) (fun n=>nS ((I.new b n).symm.trans e)) id,fun a n=>?_,fun a n=>?_⟩
  rotate_left
  · obtain ⟨ψ,rfl,hn⟩:=S.pre
    rcases n.ext with n | ⟨p,hp,rfl | rfl⟩
    · exact I.lo a n
    · exact (hn p hp).1.lo
    · exact (hn p hp).2.lo
  obtain ⟨ψ,rfl,hn⟩:=S.pre
  rcases n.ext with n | ⟨p,hp,rfl | rfl⟩
  · exact I.new a n
  · exact I.notBase (hn p hp).1.no
  · exact I.notBase (hn p hp).2.no
theorem Le.push (I:Inv C σ) (hk:∀ a o,σ.h.get? a=some o→h'.get? a=some o) {p:Addr×Addr} {o:O} (n:∀ a,Ad p a→New σ.h a) (q:Step no σ.φ σ.h (σ.φ++[p]) h'→OR C (σ.φ++[p]) h' o p) :
    Le C ex σ ⟨σ.φ++[p],Sh.on σ.s h' tk,σ.H++[o]⟩:=by
  have S:Step no σ.φ σ.h (σ.φ++[p]) h':=⟨⟨[p],rfl,fun x hx=>List.mem_singleton.mp hx▸⟨n _ (.inl rfl),n _ (.inr rfl)⟩⟩,fun a o e _ _=>hk a o e⟩
  refine Le.owned I S (fun a o e=>⟨o,hk a o e⟩) ⟨(I.hr.obj.mono fun o p q=>q.step S no_seq fun a x _=>hk a x).append (.cons (q S) .nil),fun i j a b x ea eb xa xb=>?_⟩
  have key:∀ (i:Nat) (y:Addr×Addr),(σ.φ++[p])[i]?=some y→σ.φ[i]?=some y∨y=p∧i=σ.φ.length:=fun i y e=>by
    by_cases hi:i < σ.φ.length
    · exact .inl ((List.getElem?_append_left hi).symm.trans e)
    · have:=(List.getElem?_eq_some_iff.mp e).1
      rw [List.length_append,List.length_singleton] at this
      have hi':i=σ.φ.length:=by lia
      subst hi'
      exact .inr ⟨Option.some.inj (e.symm.trans List.getElem?_concat_length),rfl⟩
  have old:∀ (i:Nat) (y:Addr×Addr),σ.φ[i]?=some y→Ad y x→¬ Ad p x:=fun i y e d d'=>I.notOwn (n x d').no ⟨y,List.mem_of_getElem? e,d⟩
  rcases key i a ea with e1 | ⟨rfl,e1⟩<;>rcases key j b eb with e2 | ⟨rfl,e2⟩
  · exact I.hr.inj i j a b x e1 e2 xa xb
  · exact (old i a e1 xa xb).elim
  · exact (old j b e2 xb xa).elim
  · exact e1.trans e2.symm
theorem Le.wrote (I:Inv C σ) {r:Nat} {p:Addr×Addr} {o:O} (hp:σ.φ[r]?=some p) (hk:∀ a,¬ Ad p a→h'.get? a=σ.h.get? a) (hl:∀ a,Ad p a→∃ o',h'.get? a=some o') (q:Step no σ.φ σ.h σ.φ h'→OR C σ.φ h' o p) :
    Le C ex σ ⟨σ.φ,Sh.on σ.s h' tk,σ.H.set r o⟩:=by
  have S:Step no σ.φ σ.h σ.φ h':=⟨⟨[],(List.append_nil _).symm,nofun⟩,fun a o e n _=>(hk a fun z=>n ⟨p,List.mem_of_getElem? hp,z⟩).trans e⟩
  refine Le.owned I S (fun a o e=>?_) ⟨I.hr.obj.upd hp (q S) fun i x y e ne d=>d.step S no_seq fun a z m e'=>(hk a fun w=>ne (I.hr.inj i r y p a e hp m w)).trans e',I.hr.inj⟩
  by_cases d:Ad p a
  · exact hl a d
  · exact ⟨o,(hk a d).trans e⟩
end
structure Mp (C:Ctx) where
  p:Wo→Prop
  up:∀ {σ σ':Wo},Le C no σ σ'→p σ→p σ'
section
variable {C:Ctx}
noncomputable def Mp.and (P Q:Mp C):Mp C:=⟨fun σ=>P.p σ∧Q.p σ,fun a h=>⟨P.up a h.1,Q.up a h.2⟩⟩
noncomputable def vr (v:V) (u:Value):Mp C:=⟨fun σ=>VR σ.φ σ.h v u,fun a q=>q.le a⟩
noncomputable def vrs (vs:List V) (us:List Value):Mp C:=⟨fun σ=>All2 (VR σ.φ σ.h) vs us,fun a q=>q.mono fun _ _ z=>z.le a⟩
noncomputable def pr (P:Prop):Mp C:=⟨fun _=>P,fun _ q=>q⟩
noncomputable def eqm {α:Type} (a b:α):Mp C:=pr (b=a)
noncomputable abbrev NE:Value→Shared→Prop:=fun _ _=>False
variable (C)
noncomputable abbrev Tr (α:Type):=(α→Shared→Prop)→Shared→Prop
noncomputable def wp (A:Around) {α:Type} (t:Sem α):Tr α:=fun Q s=>wpAny (model C.prog C.w) A t Q NE s
inductive Aft (ex:Addr→Prop) (σ:Wo) (H':Hp) (Q:Wo→Prop) (s':Shared):Prop
  | mk (φ':Phi):Le C ex σ ⟨φ',s',H'⟩→Q ⟨φ',s',H'⟩→Aft ex σ H' Q s'
end
noncomputable def ok {α:Type} (o:Option α) (K:α→Prop):Prop:=match o with
  | some a=>K a
  | none=>True
noncomputable def okR {α:Type} (o:Option (α×Hp)) (K:α→Hp→Prop):Prop:=match o with
  | some p=>K p.1 p.2
  | none=>True
section
variable {α β:Type}
theorem ok_map {f:α→β} {o:Option α} {K:β→Prop} (k:ok o fun x=>K (f x)):ok (o.map f) K:=by
  rcases o with _ | x
  · trivial
  · exact k
theorem ok_bind {f:α→Option β} {o:Option α} {K:β→Prop} (k:ok o fun x=>ok (f x) K):ok (o.bind f) K:=by
  rcases o with _ | x
  · trivial
  · exact k
theorem ok_els {o o':Option α} {K:α→Prop} (k:ok o K) (k':ok o' K):ok (els o o') K:=by
  rcases o with _ | x
  · exact k'
  · exact k
theorem ok_cond {p:Bool} {o:Option α} {K:α→Prop} (k:p=true→ok o K):ok (cond p o none) K:=by
  rcases p with _ | _
  · trivial
  · exact k rfl
theorem ok_mono {o:Option α} {K K':α→Prop} (h:ok o K) (k:∀ a,K a→K' a):ok o K':=by
  rcases o with _ | x
  · trivial
  · exact k _ h
theorem ok_of {o:Option α} {K:α→Prop} (k:∀ a,o=some a→K a):ok o K:=by
  rcases o with _ | x
  · trivial
  · exact k x rfl
theorem ok_both {f:α→α→β} {a b:Option α} {K:β→Prop} (k:ok a fun x=>ok b fun y=>K (f x y)):ok (both f a b) K:=ok_bind (ok_mono k fun _ q=>ok_map q)
theorem okR_lft {o:Option α} {H:Hp} {K:α→Hp→Prop} (k:ok o fun a=>K a H):okR (lft o H) K:=by
  rcases o with _ | x
  · trivial
  · exact k
theorem okR_bnd {f:Rn α} {g:α→Rn β} {H:Hp} {K:β→Hp→Prop} (k:okR (f H) fun a H₁=>okR (g a H₁) K):okR (bnd f g H) K:=by
  unfold bnd
  rcases h:f H with _ | p
  · trivial
  · rw [h] at k; exact k
theorem okR_grd {p:Bool} {f:Rn α} {H:Hp} {K:α→Hp→Prop} (k:p=true→okR (f H) K):okR (grd p f H) K:=by
  rcases p with _ | _
  · trivial
  · exact k rfl
theorem okR_map {f:α→β×Hp} {o:Option α} {K:β→Hp→Prop} (k:ok o fun x=>K (f x).1 (f x).2):okR (o.map f) K:=by
  rcases o with _ | x
  · trivial
  · exact k
theorem okR_bind {f:α→Option (β×Hp)} {o:Option α} {K:β→Hp→Prop} (k:ok o fun x=>okR (f x) K):okR (o.bind f) K:=by
  rcases o with _ | x
  · trivial
  · exact k
theorem okR_cond {p:Bool} {o:Option (α×Hp)} {K:α→Hp→Prop} (k:p=true→okR o K):okR (cond p o none) K:=by
  rcases p with _ | _
  · trivial
  · exact k rfl
theorem okR_mono {o:Option (α×Hp)} {K K':α→Hp→Prop} (h:okR o K) (k:∀ a H,K a H→K' a H):okR o K':=by
  rcases o with _ | x
  · trivial
  · exact k _ _ h
theorem okR_of {o:Option (α×Hp)} {K:α→Hp→Prop} (k:∀ a H,o=some (a,H)→K a H):okR o K:=by
  rcases o with _ | x
  · trivial
  · exact k x.1 x.2 rfl
theorem okR_get {o:Option (α×Hp)} {K:α→Hp→Prop} {a:α} {H:Hp} (e:o=some (a,H)) (k:okR o K):K a H:=by subst e; exact k
end
section
variable (C:Ctx)
noncomputable def Sim (ex:Addr→Prop) {α β:Type} (P:Mp C) (w:Tr α) (f:Rn β) (R:β→α→Mp C):Prop :=
  ∀ σ,Inv C σ→P.p σ→okR (f σ.H) fun b H'=>∀ Q:α→Shared→Prop,(∀ a s',Aft C ex σ H' (R b a).p s'→Q a s')→w Q σ.s
variable {C}
section
variable {ex:Addr→Prop} {A:Around} {α β γ δ:Type} {P P' Q:Mp C} {t:Sem α} {w w':Tr α} {f f':Rn β} {g:β→Rn δ} {R R₁:β→α→Mp C} {R':δ→γ→Mp C} {k:α→Tr γ}
theorem Aft.here {σ:Wo} {Q:Wo→Prop} (I:Inv C σ) (q:Q σ):Aft C ex σ σ.H Q σ.s:=⟨_,Le.refl I,q⟩
theorem Aft.at {σ σ':Wo} {Q:Wo→Prop} (a:Le C ex σ σ') (q:Q σ'):Aft C ex σ σ'.H Q σ'.s:=⟨_,a,q⟩
theorem Aft.tk {σ:Wo} {Q:Wo→Prop} (tk:Nat) (I:Inv C σ) (q:Q (σ.at σ.h tk)):Aft C ex σ σ.H Q (Sh.tk σ.s tk):=⟨_,Le.toks I,q⟩
theorem Aft.from {σ σ':Wo} {H':Hp} {Q:Wo→Prop} {s':Shared} (a:Le C ex σ σ') (q:Aft C ex σ' H' Q s'):Aft C ex σ H' Q s':=let ⟨φ,b,q⟩:=q; ⟨φ,a.trans b,q⟩
theorem Sim.non:Sim C ex P w (non:Rn β) R:=fun _ _ _=>trivial
theorem Sim.rule (h:∀ Q s,w' Q s→w Q s) (x:Sim C ex P w' f R):Sim C ex P w f R:=fun σ I p=>okR_mono (x σ I p) fun _ _ z Q k=>h _ _ (z Q k)
theorem Sim.ruleP (h:∀ σ,Inv C σ→P.p σ→okR (f σ.H) fun _ _=>∀ Q,w' Q σ.s→w Q σ.s) (x:Sim C ex P w' f R):Sim C ex P w f R:=fun σ I p=>okR_of fun b H' e Q k=>okR_get e (h σ I p) Q (okR_get e (x σ I p) Q k)
theorem Sim.ruleI (h:∀ σ,Inv C σ→P.p σ→∀ Q,w' Q σ.s→w Q σ.s) (x:Sim C ex P w' f R):Sim C ex P w f R:=fun σ I p=>okR_mono (x σ I p) fun _ _ z Q k=>h σ I p _ (z Q k)
theorem Sim.all {ι:Type} {w:ι→Tr α} (x:∀ i,Sim C ex P (w i) f R):Sim C ex P (fun Q s=>∀ i,w i Q s) f R:=fun σ I p=>okR_of fun b H' e Q k i=>okR_get e (x i σ I p) Q k
theorem Sim.wk (x:Sim C ex P' w f R) (h:∀ σ,P.p σ→P'.p σ):Sim C ex P w f R:=fun σ I p=>x σ I (h σ p)
theorem Sim.l (x:Sim C ex P w f R):Sim C ex (P.and Q) w f R:=x.wk fun _=>And.left
theorem Sim.r (x:Sim C ex P w f R):Sim C ex (Q.and P) w f R:=x.wk fun _=>And.right
theorem Sim.eq (x:Sim C ex P w f' R) (h:f=f'):Sim C ex P w f R:=h▸x
theorem Sim.bind (x:Sim C no P (wp C A t) f R) (y:∀ b a,Sim C ex (P.and (R b a)) (k a) (g b) R'):Sim C ex P (fun Q s=>wpAny (model C.prog C.w) A t (fun a s'=>k a Q s') NE s) (bnd f g) R':=fun σ I p =>
  okR_bnd (okR_mono (x σ I p) fun b H₁ z=>okR_of fun d H' e Q K=>z _ fun a s₁ ⟨φ₁,l,q⟩=>okR_get e (y b a ⟨φ₁,s₁,H₁⟩ l.inv ⟨P.up l p,q⟩) Q fun c s' z=>K c s' (z.from l.any))
theorem Sim.seq (x:Sim C ex P (wp C A t) f R) (y:∀ b a,Sim C ex (R b a) (k a) (g b) R'):Sim C ex P (fun Q s=>wpAny (model C.prog C.w) A t (fun a s'=>k a Q s') NE s) (bnd f g) R':=fun σ I p =>
  okR_bnd (okR_mono (x σ I p) fun b H₁ z=>okR_of fun d H' e Q K=>z _ fun a s₁ ⟨φ₁,l,q⟩=>okR_get e (y b a ⟨φ₁,s₁,H₁⟩ l.inv q) Q fun c s' z=>K c s' (z.from l))
end
end
end Mine
end
section
open PySem PySem.W PySem.Calls PyProof.Rows
namespace Mine
theorem lim_eq:lim=1000000:=rfl
theorem small_iff {i:Int}:small i=true↔-4611686018427387904 < i∧i < 4611686018427387904:=by
  simp [small]
theorem and_tt {a b:Bool} (h:(a && b)=true):a=true∧b=true:=by
  rcases a with _ | _
  · cases h
  · exact ⟨rfl,h⟩
section
variable {K:List V→Prop} {r:Nat} {H:Hp}
theorem ok_listAt (k:∀ vs,H[r]?=some (.list vs)→K vs):ok (listAt r H) K:=by
  unfold listAt
  rcases h:H[r]? with _ | ⟨vs⟩ | ⟨es⟩ | ⟨c,fs⟩ | ⟨ts⟩
  rotate_left 4
  · trivial
  · trivial
  · exact k vs h
  · trivial
  · trivial
theorem ok_dictAt {K:List (Int×V)→Prop} (k:∀ vs,H[r]?=some (.dict vs)→K vs):ok (dictAt r H) K:=by
  unfold dictAt
  rcases h:H[r]? with _ | ⟨vs⟩ | ⟨es⟩ | ⟨c,fs⟩ | ⟨ts⟩
  · trivial
  · trivial
  · exact k es h
  · trivial
  · trivial
theorem ok_tdictAt {K:List (List Int×V)→Prop} (k:∀ es,H[r]?=some (.tdict es)→K es) (k0:H[r]?=some (.dict [])→K []):ok (tdictAt r H) K:=by
  unfold tdictAt
  rcases h:H[r]? with _ | ⟨vs⟩ | ⟨es⟩ | ⟨c,fs⟩ | ⟨ts⟩
  · trivial
  · trivial
  · rcases es with _ | _
    · exact k0 h
    · trivial
  · trivial
  · exact k ts h
theorem ok_instAt {K:Nat×List (Nat×V)→Prop} (k:∀ c fs,H[r]?=some (.inst c fs)→K (c,fs)):ok (instAt r H) K:=by
  unfold instAt
  rcases h:H[r]? with _ | ⟨vs⟩ | ⟨es⟩ | ⟨c,fs⟩ | ⟨ts⟩
  · trivial
  · trivial
  · trivial
  · exact k c fs h
  · trivial
end
section
variable {C:Ctx} {σ:Wo} {A:Around} {ex:Addr→Prop} {φ:Phi} {h:Heap} {u v:V} {a b:Value} {r:Nat}
theorem VR.int {i:Int} {t:Tok}:VR φ h (.int i) (.int i t):=⟨t,rfl⟩
@[elab_as_elim] theorem VR.none_e {K:Value→Prop} (q:VR φ h .none a) (k:K .none):K a:=(show a=.none from q)▸k
@[elab_as_elim] theorem VR.bool_e {b:Bool} {K:Value→Prop} (q:VR φ h (.bool b) a) (k:K (.bool b)):K a:=(show a=.bool b from q)▸k
@[elab_as_elim] theorem VR.int_e {i:Int} {K:Value→Prop} (q:VR φ h (.int i) a) (k:∀ t,K (.int i t)):K a:=let ⟨t,e⟩:=q; e▸k t
theorem ok_int {K:Int→Value→Prop} (q:VR φ h v a) (k:∀ i t,v=.int i→K i (.int i t)):ok (intO v) fun i=>K i a:=by
  rcases v with _ | b | i | b | vs | vs | r<;>try trivial
  exact VR.int_e q fun t=>k i t rfl
theorem ok_bytes {K:List UInt8→Value→Prop} (q:VR φ h v a) (k:∀ i t,K i (.bytes i.toArray t)):ok (bytesO v) fun i=>K i a:=by
  rcases v with _ | b | i | b | vs | vs | r<;>try trivial
  exact let ⟨t,e⟩:=q; e▸k b t
@[elab_as_elim] theorem Inv.look (I:Inv C σ) {o:O} {K:Value→Prop} (e:σ.H[r]?=some o) (q:VR σ.φ σ.h (.ref r) a) (k:∀ p,σ.φ[r]?=some p→OR C σ.φ σ.h o p→K (.ref p.1)):K a :=
  let ⟨p,hp,e1⟩:=q
  let ⟨p',hp',z⟩:=I.hr.obj.get' e
  e1▸k p hp (Option.some.inj (hp'.symm.trans hp)▸z)
structure LstV (σ:Wo) (r:Nat) (vs:List V) (p:Addr×Addr) (ws:Array Value) (n:Nat):Prop where
  at_:σ.φ[r]?=some p
  lst:LstAt σ.h p.1 ws n
  one:p.2=p.1
  le:vs.length≤2 * lim
  size:ws.size=vs.length
  all:All2 (VR σ.φ σ.h) vs ws.toList
@[elab_as_elim] theorem Inv.list (I:Inv C σ) {vs:List V} {K:Value→Prop} (e:σ.H[r]?=some (.list vs)) (q:VR σ.φ σ.h (.ref r) a) (k:∀ p ws n,LstV σ r vs p ws n→K (.ref p.1)):K a :=
  I.look e q fun p hp ⟨ws,n,hl,l,e2,z⟩=>k p ws n ⟨hp,hl,e2,l,z.length.symm,z⟩
theorem LstAt.isList {a:Addr} {ws:Array Value} {n:Nat} (x:LstAt h a ws n):h.IsList a ws:=⟨_,x,rfl,n,rfl⟩
theorem empty_iff {vs:List V} {ws:Array Value} (q:ws.size=vs.length):ws.isEmpty=vs.isEmpty:=by
  rcases vs with _ | ⟨v,vs⟩<;>simp [Array.isEmpty,q]
theorem LstV.lt {vs:List V} {p:Addr×Addr} {ws:Array Value} {n:Nat} (x:LstV σ r vs p ws n):ws.size≤2 * lim:=Nat.le_trans (Nat.le_of_eq x.size) x.le
theorem lim63 {n:Nat} (h:n≤2 * lim):(n:Int) < 2 ^ 63:=by rw [lim_eq] at h; (first | lia | omega +splitDisjunctions)
theorem truth_ok:Sim C ex (vr v a) (wp C A (truthy a)) (truR v) eqm:=by
  intro σ I (q:VR σ.φ σ.h v a)
  rcases v with _ | c | i | b | vs | vs | r<;>refine okR_lft ?_<;>try trivial
  · refine VR.none_e q ?_
    exact fun Q k=>truthy_none (k _ _ (Aft.here I rfl))
  · refine VR.bool_e q ?_
    exact fun Q k=>wpAny_truthy_bool (k _ _ (Aft.here I rfl))
  · refine ok_map (ok_listAt fun vs e=>I.list e q fun p ws n x=>?_)
    exact fun Q k=>wpAny_truthy_list x.lst.isList (lim63 x.lt) (k _ _ (Aft.tk _ I (congrArg not (empty_iff x.size))))
structure Shows (h:Heap) (n:Nat) (u:Value) (d:PyData):Prop where
  rd:∃ as,Reads h u d as
  lay:d.canLay0=true
  dep:d.depth≤n
structure ShowsAll (h:Heap) (n:Nat) (us:List Value) (ds:List PyData):Prop where
  rd:∃ as,ReadsAll h us ds as
  lay:PyData.canLayAll0 ds=true
  dep:PyData.depthAll ds≤n
theorem shows_all {f:V→Option PyData} {n:Nat} (k:∀ {v u},VR φ h v u→ok (f v) (Shows h n u)) {vs:List V} {us:List Value} (q:All2 (VR φ h) vs us):ok (toDs f vs) (ShowsAll h n us):=by
  induction q with
  | nil=>exact ⟨⟨_,.nil⟩,rfl,Nat.zero_le _⟩
  | cons a _ ih =>
    exact ok_bind (ok_mono (k a) fun d ⟨⟨as,ra⟩,l1,d1⟩=>ok_map (ok_mono ih fun ds ⟨⟨bs,rb⟩,l2,d2⟩=>⟨⟨_,.cons ra rb⟩,Bool.and_eq_true_iff.mpr ⟨l1,l2⟩,Nat.max_le.mpr ⟨d1,d2⟩⟩))
theorem Shows.atom {n:Nat} {d:PyData} {as:List Addr} (r:Reads h a d as) (l:d.canLay0=true) (e:d.depth=0):Shows h n a d:=⟨⟨_,r⟩,l,e▸Nat.zero_le _⟩
theorem shows {n:Nat}:∀ {v:V} {u:Value},VR φ h v u→ok (toD n v) (Shows h n u):=by
  induction n with
  | zero =>
    intro v u q
    rcases v with _ | b | i | b | vs | vs | r<;>try trivial
    · exact VR.none_e (K:=fun u=>Shows h _ u .none) q (Shows.atom .none rfl rfl)
    · exact VR.bool_e (K:=fun u=>Shows h _ u (.bool b)) q (Shows.atom (.bool b) rfl rfl)
    · exact VR.int_e (K:=fun u=>Shows h 0 u (.int i)) q fun t=>Shows.atom (.int i t) rfl rfl
  | succ n ih =>
    intro v u q
    rcases v with _ | b | i | b | vs | vs | r<;>try trivial
    · exact VR.none_e (K:=fun u=>Shows h _ u .none) q (Shows.atom .none rfl rfl)
    · exact VR.bool_e (K:=fun u=>Shows h _ u (.bool b)) q (Shows.atom (.bool b) rfl rfl)
    · exact VR.int_e (K:=fun u=>Shows h (n + 1) u (.int i)) q fun t=>Shows.atom (.int i t) rfl rfl
    · obtain ⟨a,ws,k,ho,_,r⟩:=q
      exact ok_map (ok_mono (shows_all ih r.all) fun ds ⟨⟨as,ra⟩,l,dd⟩=>⟨⟨_,.tuple ho rfl rfl ra⟩,l,Nat.succ_le_succ dd⟩)
theorem Shows.shaped {d:PyData} {n:Nat} (x:Shows h n a d) (l:n≤64):SeqAt.shaped d=true:=Bool.and_eq_true_iff.mpr ⟨x.lay,decide_eq_true (Nat.le_trans x.dep l)⟩
theorem shows_d (I:Inv C σ) (q:VR σ.φ σ.h v a):ok (dOf σ.H v) (Shows σ.h 3 a):=by
  rcases v with _ | b | i | b | vs | vs | r
  · exact shows q
  · exact shows q
  · exact shows q
  · trivial
  · exact shows q
  · trivial
  · exact ok_bind (ok_listAt fun vs e=>ok_map (I.list (K:=fun a=>ok _ fun x=>Shows σ.h 3 a (.list x)) e q fun p ws n x=>ok_mono (shows_all shows x.all) fun ds ⟨⟨as,ra⟩,l,dd⟩=>⟨⟨_,.list x.lst rfl rfl ra⟩,l,Nat.succ_le_succ dd⟩))
structure NilV (h:Heap) (a:Value) (l:Addr) (ws:Array Value) (b:Bool):Prop where
  eq:a=.ref l
  lst:h.IsList l ws
  nil:ws.isEmpty=b
theorem isNil_ok (I:Inv C σ) (q:VR σ.φ σ.h v a):ok (isNil σ.H v) fun b=>∃ l ws,NilV σ.h a l ws b:=by
  rcases v with _ | b | i | b | vs | vs | r<;>try trivial
  exact ok_map (ok_listAt fun vs e=>I.list (K:=fun a=>∃ l ws,NilV σ.h a l ws vs.isEmpty) e q fun p ws n x=>⟨_,ws,rfl,x.lst.isList,empty_iff x.size⟩)
noncomputable def Gives (C:Ctx) (A:Around) (σ:Wo) (t:Sem Value) (c:Bool):Prop:=∀ Q:Value→Shared→Prop,(∀ tk,Q (.bool c) (Sh.tk σ.s tk))→wpAny (model C.prog C.w) A t Q NE σ.s
structure Duo (C:Ctx) (A:Around) (σ:Wo) (t t':Sem Value) (c:Bool):Prop where
  y:Gives C A σ t c
  n:Gives C A σ t' (!c)
theorem sz_nil {x:Array Value} (h:x.isEmpty=true):x.size=0:=by simpa [Array.isEmpty] using h
theorem sz_not {x:Array Value} (h:x.isEmpty=false):x.size≠0:=by simpa [Array.isEmpty] using h
theorem duo_len {l m:Addr} {ws us:Array Value} (hl:σ.h.IsList l ws) (hm:σ.h.IsList m us) (hu:A.units < cLine) (h:ws.size≠us.size):Duo C A σ (compareOp .Eq (.ref l) (.ref m)) (compareOp .NotEq (.ref l) (.ref m)) false :=
  ⟨fun Q k=>SeqAt.eq_list_lengthsAt hl hm (bne_iff_ne.mpr h) hu (k _),fun Q k=>cmp_ofNotEq (SeqAt.RcNeAt.lists_lengths hl hm (bne_iff_ne.mpr h) hu _ _ _ _ (k _))⟩
theorem duo_nil {l m:Addr} {ws us:Array Value} (hl:σ.h.IsList l ws) (hm:σ.h.IsList m us) (hu:A.units < cLine) (h:ws.size=0) (h':us.size=0):Duo C A σ (compareOp .Eq (.ref l) (.ref m)) (compareOp .NotEq (.ref l) (.ref m)) true:=by
  have he:∀ j (h1:j < ws.size) (h2:j < us.size),SeqAt.EqAt A.in1 σ.s ws[j] us[j] ((fun _=>true) j):=fun j h1=>absurd h1 (h▸Nat.not_lt_zero j)
  exact ⟨fun Q k=>SeqAt.eq_listAt (e:=fun _=>true) hl hm (h.trans h'.symm) hu he (by rw [h]; exact k _),fun Q k=>cmp_ofNotEq (SeqAt.RcNeAt.lists (e:=fun _=>true) hl hm (h.trans h'.symm) hu he _ _ _ _ (by rw [h]; exact k _))⟩
@[elab_as_elim] theorem Inv.dict (I:Inv C σ) {es:List (Int×V)} {K:Value→Prop} (e:σ.H[r]?=some (.dict es)) (q:VR σ.φ σ.h (.ref r) a) (k:∀ p,σ.φ[r]?=some p→OD C σ.φ σ.h es p→K (.ref p.1)):K a:=I.look e q k
@[elab_as_elim] theorem Inv.tdict (I:Inv C σ) {es:List (List Int×V)} {K:Value→Prop} (e:σ.H[r]?=some (.tdict es)) (q:VR σ.φ σ.h (.ref r) a) (k:∀ p,σ.φ[r]?=some p→OT C σ.φ σ.h es p→K (.ref p.1)):K a:=I.look e q k
theorem items_are {C:Ctx} {vs:List V} {us:List Value} (q:All2 (VR φ h) vs us):∀ {is:List Int},intsOf vs=some is→ItemsAre (intKind C.prog C.w) is us:=by
  induction q with
  | nil=>intro is e; cases e; exact .nil
  | @cons v u vs us qv _ ih =>
    intro is e
    rcases v with _ | _ | i | _ | _ | _ | _<;>try exact nS e
    have e:(intsOf vs).map (i::·)=some is:=e
    obtain ⟨js,ej,rfl⟩:=Option.map_eq_some_iff.mp e
    obtain ⟨t,rfl⟩:∃ t,u=.int i t:=qv
    exact .cons (intKind_is _ _ _ _) (ih ej)
theorem ok_keyT {C:Ctx} {K:List Int→Value→Prop} (q:VR φ h v a) (k:∀ is l,IsTupleKey (intKind C.prog C.w) h is l→¬ Own φ l→K is (.ref l)):ok (keyT v) fun is=>K is a:=by
  rcases v with _ | _ | _ | _ | vs | _ | _<;>try trivial
  obtain ⟨l,ws,n,ho,no,z⟩:=q
  exact ok_cond fun _=>ok_of fun is e=>k is l ⟨_,ws,n,ho,rfl,rfl,items_are z.all e⟩ no
theorem OD.toT {C:Ctx} {p:Addr×Addr} (z:OD C φ h [] p):OT C φ h [] p:=by
  obtain ⟨ka,⟨o,es,ep,ho,hx,hd,hk,hp,nd⟩,l,l2,e,q⟩:=z
  have e0:ka=[]:=List.eq_nil_of_length_eq_zero (Nat.le_zero.mp l)
  subst e0
  have e1:es.toList=[]:=List.eq_nil_of_length_eq_zero hp.length
  exact ⟨[],⟨o,es,ep,ho,hx,hd,e1,fun x hx=>(List.not_mem_nil hx).elim,List.nodup_nil⟩,Nat.le_refl 0,l2,e,fun x hx=>(List.not_mem_nil hx).elim,fun k=>trivial⟩
theorem Inv.td (I:Inv C σ) {K:List (List Int×V)→Value→Prop} (q:VR σ.φ σ.h (.ref r) a) (k:∀ es p,σ.φ[r]?=some p→OT C σ.φ σ.h es p→K es (.ref p.1)):ok (tdictAt r σ.H) fun es=>K es a :=
  ok_tdictAt (fun es e=>I.tdict (K:=K es) e q (k es)) fun e=>I.dict (K:=K []) e q fun p hp z=>k [] p hp z.toT
theorem not_in {a b:Value} {c:Bool} {s s':Shared} {Q:Value→Shared→Prop} (q2:wpAny (model C.prog C.w) A (compareOp .In a b) (fun v t=>v=.bool c∧t=s') NE s) (k:Q (.bool !c) s'):wpAny (model C.prog C.w) A (compareOp .NotIn a b) Q NE s:=by
  have q2:wpAny (model C.prog C.w) A (contains b a >>= fun b=>pure (Value.bool b)) (fun v t=>v=.bool c∧t=s') NE s:=q2
  have q':wpAny (model C.prog C.w) A (contains b a) (fun b t=>b=c∧t=s') NE s:=by
    intro Γ p hΓ
    have:=q2 Γ p hΓ
    rw [Sem.wp_bind'] at this
    exact Sem.wp_mono _ _ _ (fun a p' s' h'=>⟨Value.bool.inj (And.left h'),And.right h'⟩) (fun _ _ _ h'=>h') _ _ this
  show wpAny _ _ (contains b a >>= fun b=>pure (Value.bool !b)) Q NE s
  refine wpAny_bind (wpAny_mono q' (fun b t hb=>?_) fun _ _ x=>x)
  obtain ⟨rfl,rfl⟩:=hb
  exact wpAny_pure k
theorem mem_dkeys {k:Int} {es:List (Int×V)}:k∈dkeys es↔(dget k es).isSome=true:=by
  induction es with
  | nil=>exact ⟨fun h=>(List.not_mem_nil h).elim,fun h=>nB h⟩
  | cons e es ih =>
    show k∈cond ((dkeys es).contains e.1) (dkeys es) (e.1::dkeys es)↔(if (e.1 == k)=true then some e.2 else dget k es).isSome=true
    by_cases h:e.1=k
    · rw [if_pos (beq_iff_eq.mpr h)]
      refine ⟨fun _=>rfl,fun _=>?_⟩
      rcases hc:(dkeys es).contains e.1 with _ | _
      · exact h▸List.mem_cons_self
      · exact h▸List.contains_iff_mem.mp hc
    · rw [if_neg fun z=>h (eq_of_beq z),← ih]
      rcases hc:(dkeys es).contains e.1 with _ | _
      · exact ⟨fun z=>(List.mem_cons.mp z).resolve_left fun q=>h q.symm,fun z=>List.mem_cons_of_mem _ z⟩
      · exact Iff.rfl
theorem nodup_dkeys:∀ es:List (Int×V),(dkeys es).Nodup:=by
  intro es
  induction es with
  | nil=>exact List.nodup_nil
  | cons e es ih =>
    show (cond ((dkeys es).contains e.1) (dkeys es) (e.1::dkeys es)).Nodup
    rcases hc:(dkeys es).contains e.1 with _ | _
    · exact List.nodup_cons.mpr ⟨fun z=>Bool.false_ne_true (hc.symm.trans (List.contains_iff_mem.mpr z)),ih⟩
    · exact ih
theorem valueAt_mem {ka:List (Int×Value)} {k:Int}:k∈ka.map (·.1)↔(valueAt ka k).isSome=true:=by
  induction ka with
  | nil=>exact ⟨fun h=>(List.not_mem_nil h).elim,fun h=>nB h⟩
  | cons e r ih =>
    rw [List.map_cons,List.mem_cons,ih,valueAt_cons]
    by_cases h:e.1=k
    · rw [if_pos h]; exact ⟨fun _=>rfl,fun _=>.inl h.symm⟩
    · rw [if_neg h]; exact ⟨fun z=>z.resolve_left fun q=>h q.symm,.inr⟩
theorem MR.some_iff {v:Option V} {x:Option Value} (q:MR φ h v x):x.isSome=v.isSome:=by
  rcases x with _ | x<;>rcases v with _ | v<;>first | rfl | exact q.elim
theorem MR.int_at {v:Option V} {x:Option Value} (q:MR φ h v x) {i:Int} (e:v.bind intO=some i):∃ t,x=some (.int i t):=by
  rcases v with _ | v
  · exact nS e
  · rcases x with _ | u
    · exact q.elim
    · rcases v with _ | _ | j | _ | _ | _ | _<;>first | exact nS e | skip
      cases (show some j=some i from e)
      obtain ⟨t,rfl⟩:∃ t,u=.int i t:=q
      exact ⟨t,rfl⟩
theorem dget_mem {k:Int} {v:V} {es:List (Int×V)} (e:dget k es=some v):(k,v)∈es:=by
  induction es with
  | nil=>exact nS e
  | cons a es ih =>
    have e:(if (a.1 == k)=true then some a.2 else dget k es)=some v:=e
    by_cases h:(a.1 == k)=true
    · rw [if_pos h] at e
      obtain ⟨x,y⟩:=a
      cases (eq_of_beq h:x=k)
      cases e
      exact List.mem_cons_self
    · rw [if_neg h] at e; exact List.mem_cons_of_mem _ (ih e)
theorem dval_some {k:Int} {es:List (Int×V)} (hi:(es.all fun e=>(intO e.2).isSome)=true) (hk:(dget k es).isSome=true):∃ i,dval k es=some i:=by
  obtain ⟨v,e⟩:=Option.isSome_iff_exists.mp hk
  obtain ⟨i,hv⟩:=Option.isSome_iff_exists.mp (List.all_eq_true.mp hi _ (dget_mem e))
  exact ⟨i,by unfold dval; rw [e]; exact hv⟩
theorem OD.keys {C:Ctx} {es:List (Int×V)} {p:Addr×Addr} {ka:List (Int×Value)} (hd:h.DictOf (intKind C.prog C.w) p.1 ka) (hq:∀ k,MR φ h (dget k es) (valueAt ka k)):ka.length=(dkeys es).length∧∀ k,k∈ka.map (·.1)↔k∈dkeys es:=by
  have m:∀ k,k∈ka.map (·.1)↔k∈dkeys es:=fun k=>by rw [valueAt_mem,mem_dkeys,(hq k).some_iff]
  obtain ⟨_,_,_,_,_,_,_,_,nd⟩:=hd
  refine ⟨?_,m⟩
  rw [← List.length_map (f:=(·.1))]
  exact Nat.le_antisymm (nodup_length nd fun k z=>(m k).mp z) (nodup_length (nodup_dkeys es) fun k z=>(m k).mpr z)
theorem keq_hits {s:Shared} {es es':List (Int×V)} {kb:List (Int×Value)} (i1:(es.all fun e=>(intO e.2).isSome)=true) (i2:(es'.all fun e=>(intO e.2).isSome)=true) (hb:∀ k,MR φ h (dget k es') (valueAt kb k)) :
    ∀ ka:List (Int×Value),(∀ kv∈ka,MR φ h (dget kv.1 es) (some kv.2))→KeqHits A s kb ka (ka.all fun kv=>dval kv.1 es == dval kv.1 es'):=by
  intro ka
  induction ka with
  | nil=>exact fun _=>.nil
  | cons a r ih =>
    intro ha
    obtain ⟨k,v⟩:=a
    have hr:=ih fun kv z=>ha kv (List.mem_cons_of_mem _ z)
    have hv:=ha (k,v) List.mem_cons_self
    obtain ⟨i,ei⟩:=dval_some i1 (k:=k) (by rw [← hv.some_iff]; rfl)
    obtain ⟨t,et⟩:=hv.int_at ei
    cases Option.some.inj et
    rw [List.all_cons]
    rcases hk:valueAt kb k with _ | y
    · have z:=hb k
      rw [hk] at z
      have:dget k es'=none:=by
        rcases q:dget k es' with _ | w
        · rfl
        · rw [q] at z; exact z.elim
      have e2:dval k es'=none:=by unfold dval; rw [this]; rfl
      show KeqHits A s kb _ ((dval k es == dval k es') && _)
      rw [ei,e2]
      exact .miss hk
    · have z:=hb k
      obtain ⟨j,ej⟩:=dval_some i2 (k:=k) (by rw [← z.some_iff,hk]; rfl)
      obtain ⟨u,eu⟩:=z.int_at ej
      rw [hk] at eu
      cases Option.some.inj eu
      show KeqHits A s kb _ ((dval k es == dval k es') && _)
      rw [ei,ej]
      exact .hit hk (SeqAt.EqAt.int_int i t j u) hr
theorem dSame_ok (I:Inv C σ) (hu:A.units < cLine) {es es':List (Int×V)} {p q:Addr×Addr} (np:Own σ.φ p.1) (nq:Own σ.φ q.1) (zp:OD C σ.φ σ.h es p) (zq:OD C σ.φ σ.h es' q) :
    ok (dSame es es') (Duo C A σ (compareOp .Eq (.ref p.1) (.ref q.1)) (compareOp .NotEq (.ref p.1) (.ref q.1))):=by
  refine ok_cond fun i1=>ok_cond fun i2=>?_
  obtain ⟨ka,da,_,_,_,qa⟩:=zp
  obtain ⟨kb,db,_,_,_,qb⟩:=zq
  obtain ⟨la,ma⟩:=OD.keys da qa
  obtain ⟨lb,mb⟩:=OD.keys db qb
  have nd:(ka.map (·.1)).Nodup:=by obtain ⟨_,_,_,_,_,_,_,_,nd⟩:=da; exact nd
  have hits:KeqHits A.in1 σ.s kb ka (ka.all fun kv=>dval kv.1 es == dval kv.1 es'):=by
    refine keq_hits i1 i2 qb ka fun kv z=>?_
    obtain ⟨i,hi⟩:=List.getElem?_of_mem z
    have e:=valueAt_of_get nd (i:=i) (k:=kv.1) (v:=kv.2) hi
    exact e▸qa kv.1
  have e:(ka.length == kb.length && ka.all fun kv=>dval kv.1 es == dval kv.1 es')=((dkeys es).length == (dkeys es').length && (dkeys es).all fun k=>dval k es == dval k es'):=by
    rw [la,lb]
    refine congrArg _ (Bool.eq_iff_iff.mpr ?_)
    rw [List.all_eq_true,List.all_eq_true]
    refine ⟨fun z k hk=>?_,fun z kv hk=>z kv.1 ((ma _).mp (List.mem_map.mpr ⟨kv,hk,rfl⟩))⟩
    obtain ⟨kv,hkv,rfl⟩:=List.mem_map.mp ((ma k).mpr hk)
    exact z kv hkv
  show Duo C A σ _ _ _
  rw [← e]
  exact ⟨fun Q k=>keq_eq (I.ne np) (I.ne nq) da db hu (fun _=>hits) (k σ.s.toks),fun Q k=>keq_ne (I.ne np) (I.ne nq) da db hu (fun _=>hits) (k σ.s.toks)⟩
theorem eq_ok (I:Inv C σ) (hu:A.units + 64 < cLine) (qa:VR σ.φ σ.h u a) (qb:VR σ.φ σ.h v b):ok (eqV σ.H u v) (Duo C A σ (compareOp .Eq a b) (compareOp .NotEq a b)):=by
  have hu':A.units < cLine:=Nat.lt_of_le_of_lt (Nat.le_add_right _ 64) hu
  refine ok_els (ok_both ?_) (ok_els (ok_both ?_) (ok_els (ok_bind (ok_both ?_)) ?_))
  · refine ok_bytes (K:=fun x a=>ok (bytesO v) fun y=>Duo C A σ (compareOp .Eq a b) (compareOp .NotEq a b) (x == y)) qa fun x t=>?_
    exact ok_bytes (K:=fun y b=>Duo C A σ (compareOp .Eq _ b) (compareOp .NotEq _ b) (x == y)) qb fun y t=>⟨fun Q k=>eq_bytes (k _),fun Q k=>ne_bytes (k _)⟩
  · exact ok_mono (shows_d I qa) fun x s1=>ok_mono (shows_d I qb) fun y s2=>let ⟨as,ra⟩:=s1.rd; let ⟨bs,rb⟩:=s2.rd
      ⟨fun Q k=>eq_dataH ra rb (s1.shaped (by decide)) (s2.shaped (by decide)) hu (k _),fun Q k=>ne_dataH ra rb (s1.shaped (by decide)) (s2.shaped (by decide)) hu (k _)⟩
  · refine ok_mono (isNil_ok I qa) fun p ⟨l,ws,ea,hl,e1⟩=>ok_mono (isNil_ok I qb) fun q ⟨m,us,eb,hm,e2⟩=>?_
    subst ea eb
    rcases p with _ | _<;>rcases q with _ | _
    · trivial
    · exact duo_len hl hm hu' (by rw [sz_nil e2]; exact sz_not e1)
    · exact duo_len hl hm hu' (by rw [sz_nil e1]; exact (sz_not e2).symm)
    · exact duo_nil hl hm hu' (sz_nil e1) (sz_nil e2)
  · rcases u with _ | _ | _ | _ | _ | _ | r<;>try trivial
    refine ok_bind (ok_dictAt fun es e=>I.dict (K:=fun a=>ok _ (Duo C A σ (compareOp .Eq a b) (compareOp .NotEq a b))) e qa fun p hp z=>?_)
    rcases v with _ | _ | _ | _ | _ | _ | r'<;>try trivial
    exact ok_bind (ok_dictAt fun es' e'=>I.dict (K:=fun b=>ok _ (Duo C A σ (compareOp .Eq _ b) (compareOp .NotEq _ b))) e' qb fun q hq z'=>dSame_ok I hu' ⟨p,List.mem_of_getElem? hp,.inl rfl⟩ ⟨q,List.mem_of_getElem? hq,.inl rfl⟩ z z')
theorem MR.get {v:V} {x:Option Value} (q:MR φ h (some v) x):∃ u,x=Option.some u∧VR φ h v u:=by
  rcases x with _ | u
  · exact q.elim
  · exact ⟨u,rfl,q⟩
theorem MR.isSome {v:Option V} {x:Option Value} (q:MR φ h v x):x.isSome=v.isSome:=by
  rcases x with _ | x<;>rcases v with _ | v<;>first | rfl | exact q.elim
theorem notIn_intMap {s:Shared} {d:Addr} {f:Int→Option Value} {k:Int} {t:Tok} {Q:Value→Shared→Prop} (hm:s.heap.IntMap d f)
    (h:Q (.bool !(f k).isSome) (Sh.tk s (s.toks + 1))):wpAny (model C.prog C.w) A (compareOp .NotIn (.int k t) (.ref d)) Q NE s:=by
  have q2:wpAny (model C.prog C.w) A (contains (.ref d) (.int k t) >>= fun b=>pure (Value.bool b)) (fun v s'=>v=.bool (f k).isSome∧s'=Sh.tk s (s.toks + 1)) NE s:=wpAny_in_intMap hm ⟨rfl,rfl⟩
  have q':wpAny (model C.prog C.w) A (contains (.ref d) (.int k t)) (fun b s'=>b=(f k).isSome∧s'=Sh.tk s (s.toks + 1)) NE s:=by
    intro Γ p hΓ
    have:=q2 Γ p hΓ
    rw [Sem.wp_bind'] at this
    exact Sem.wp_mono _ _ _ (fun a p' s' h'=>⟨Value.bool.inj (And.left h'),And.right h'⟩) (fun _ _ _ h'=>h') _ _ this
  show wpAny _ _ (contains (.ref d) (.int k t) >>= fun b=>pure (Value.bool !b)) Q NE s
  refine wpAny_bind (wpAny_mono q' (fun b s' hb=>?_) fun _ _ x=>x)
  obtain ⟨rfl,rfl⟩:=hb
  exact wpAny_pure h
structure InD (h:Heap) (A:Around) (us:List Value) (a:Value) (x:PyData) (ys:List PyData):Prop where
  ra:∃ as,ReadsAll h us ys as
  rb:∃ bs,Reads h a x bs
  l1:PyData.canLayAll0 ys=true
  l2:x.canLay0=true
  d:A.units + 1 + min (PyData.depthAll ys) x.depth < cLine
theorem inD_ok {K:Bool→Prop} (hu:A.units + 64 < cLine) {vs:List V} {us:List Value} (qa:VR φ h u a) (qs:All2 (VR φ h) vs us) (k:∀ x ys,InD h A us a x ys→K (ys.any fun y=>PyData.eqv y x)):ok (inD u vs) K :=
  ok_bind (ok_mono (shows qa) fun x s=>ok_map (ok_mono (shows_all shows qs) fun ys z=>k x ys ⟨z.rd,s.rd,z.lay,s.lay,by have:=Nat.min_le_right (PyData.depthAll ys) x.depth; have:=s.dep; lia⟩))
theorem in_ok (I:Inv C σ) (hu:A.units + 64 < cLine) (qa:VR σ.φ σ.h u a) (qb:VR σ.φ σ.h v b):ok (inV σ.H u v) (Duo C A σ (compareOp .In a b) (compareOp .NotIn a b)):=by
  rcases v with _ | _ | i | _ | vs | vs | r<;>try trivial
  · obtain ⟨t,ws,n,ho,_,k⟩:=qb
    exact inD_ok hu qa k.all fun x ys ⟨⟨as,ra⟩,⟨bs,rb⟩,l1,l2,d⟩=>⟨fun Q k=>SeqAt.in_tuple_reads (.tuple ho rfl rfl ra) rb l1 l2 d (k _),fun Q k=>SeqAt.notIn_tuple_reads (.tuple ho rfl rfl ra) rb l1 l2 d (k _)⟩
  · refine ok_els (ok_bind (ok_listAt fun vs e=>I.list (K:=fun b=>ok _ (Duo C A σ (compareOp .In a b) (compareOp .NotIn a b))) e qb fun p ws n z=>?_)) (ok_els (ok_bind (ok_dictAt fun es e=>I.dict (K:=fun b=>ok _ (Duo C A σ (compareOp .In a b) (compareOp .NotIn a b))) e qb fun p hp z=>ok_map ?_)) (ok_bind (ok_mono (I.td (K:=fun es b=>ok ((keyT u).map fun k=>(tget k es).isSome) (Duo C A σ (compareOp .In a b) (compareOp .NotIn a b))) qb fun es p hp z=>ok_map ?_) fun _ z=>z)))
    · exact inD_ok hu qa z.all fun x ys ⟨⟨as,ra⟩,⟨bs,rb⟩,l1,l2,d⟩=>⟨fun Q k=>SeqAt.in_list_reads (.list z.lst rfl rfl ra) rb l1 l2 d (k _),fun Q k=>SeqAt.notIn_list_reads (.list z.lst rfl rfl ra) rb l1 l2 d (k _)⟩
    · obtain ⟨ka,hd,_,_,_,hq⟩:=z
      have hm:=hd.mapOf.intMap
      exact ok_int (K:=fun i a=>Duo C A σ (compareOp .In a _) (compareOp .NotIn a _) (dget i es).isSome) qa fun i t _=>by
        rw [← (hq i).isSome]
        exact ⟨fun Q k=>wpAny_in_intMap hm (k _),fun Q k=>notIn_intMap hm (k _)⟩
    · obtain ⟨xs,hd,_,_,_,_,hq⟩:=z
      refine ok_keyT (C:=C) (K:=fun is a=>Duo C A σ (compareOp .In a _) (compareOp .NotIn a _) (tget is es).isSome) qa fun is l hk _=>?_
      have hl:(atKey xs is).isSome=(tget is es).isSome:=by rw [← (hq is).isSome]; rcases atKey xs is with _ | _<;>rfl
      have hin {Q:Value→Shared→Prop} (k:Q (.bool (tget is es).isSome) (Sh.tk σ.s (σ.s.toks + (is.length + 1)))):wpAny (model C.prog C.w) A (compareOp .In (.ref l) (.ref p.1)) Q NE σ.s :=
        wpAny_in_heap (knd:=tupleKind (intKind C.prog C.w)) (tupleKind_room_in1 (by (first | lia | omega +splitDisjunctions))) hk (I.ne ⟨p,List.mem_of_getElem? hp,.inl rfl⟩) hd (hl▸k)
      exact ⟨fun Q k=>hin (k _),fun Q k=>not_in (hin ⟨rfl,rfl⟩) (k _)⟩
theorem ref_none (q:VR φ h v a):(a == .none)=isNone v:=by
  rcases v with _ | b | i | b | vs | vs | r
  · exact VR.none_e (K:=fun a=>(a == .none)=true) q rfl
  · exact VR.bool_e (K:=fun a=>(a == .none)=false) q rfl
  · exact let ⟨_,e⟩:=q; e▸rfl
  · exact let ⟨_,e⟩:=q; e▸rfl
  · obtain ⟨_,_,_,_,_,_⟩:=q; rfl
  · obtain ⟨_,_,_,_,_,_⟩:=q; rfl
  · exact let ⟨_,_,e⟩:=q; e▸rfl
theorem dig {f:Int→Int→Bool} {t:Value→Value→Sem Value} (qa:VR σ.φ σ.h u a) (qb:VR σ.φ σ.h v b) (k:∀ x y i j,Gives C A σ (t (.int x i) (.int y j)) (f x y)):ok (both f (intO u) (intO v)) (Gives C A σ (t a b)) :=
  ok_both (ok_int (K:=fun x a=>ok (intO v) fun y=>Gives C A σ (t a b) (f x y)) qa fun x i _=>ok_int (K:=fun y b=>Gives C A σ (t _ b) (f x y)) qb fun y j _=>k x y i j)
theorem cmp_at {op:CmpOp} (I:Inv C σ) (hu:A.units + 64 < cLine) (qa:VR σ.φ σ.h u a) (qb:VR σ.φ σ.h v b):ok (cmpB op u v σ.H) (Gives C A σ (compareOp op a b)):=by
  have nn:∀ {op:CmpOp} {c:Bool},Gives C A σ (compareOp op a .none) c→ok (cond (isNone v) (some c) none) (Gives C A σ (compareOp op a b)):=fun k=>ok_cond fun h=>by
    have e:b=.none:=eq_of_beq ((ref_none qb).trans h)
    exact e▸k
  rcases op with _ | _ | _ | _ | _ | _ | _ | _ | _ | _
  · exact ok_mono (eq_ok I hu qa qb) fun _ d=>d.y
  · exact ok_map (ok_mono (eq_ok I hu qa qb) fun _ d=>d.n)
  · exact dig qa qb fun x y i j Q k=>lt_int (k _)
  · exact dig qa qb fun x y i j Q k=>le_int (k _)
  · exact dig qa qb fun x y i j Q k=>gt_int (k _)
  · exact dig qa qb fun x y i j Q k=>ge_int (k _)
  · exact nn fun Q k=>is_none_gen (by rw [ref_none qa]; exact k _)
  · exact nn fun Q k=>isnot_none_gen (by rw [ref_none qa]; exact k _)
  · exact ok_mono (in_ok I hu qa qb) fun _ d=>d.y
  · exact ok_map (ok_mono (in_ok I hu qa qb) fun _ d=>d.n)
theorem cmp_ok {op:CmpOp} (hu:A.units + 64 < cLine):Sim C ex ((vr u a).and (vr v b)) (wp C A (compareOp op a b)) (fun H=>lft (cmpV op u v H) H) vr:=fun σ I p =>
  okR_lft (ok_map (ok_mono (cmp_at I hu p.1 p.2) fun c g Q k=>g Q fun tk=>k _ _ (Aft.tk tk I (Eq.refl (Value.bool c)))))
end
end Mine
end
section
open PySem PySem.W PySem.Calls PyProof.Rows
namespace Mine
theorem fresh_get {h:Heap}:h.get? h.objs.size=none:=Heap.get?_none_of_le (Nat.le_refl _)
theorem push_keeps {h:Heap} {o:Obj}:∀ a x,h.get? a=some x→(h.push o).get? a=some x:=fun _ _ e=>Heap.get?_push_of_some _ e
theorem size_ok {n:Nat} (h:n≤2 * lim):n≤sizeLine:=by rw [sizeLine_eq]; rw [lim_eq] at h; exact Nat.le_trans (by assumption) (by decide)
section
variable {C:Ctx} {σ:Wo} {A:Around} {ex:Addr→Prop} {φ:Phi} {h h':Heap} {u v:V} {a b:Value} {r:Nat} {vs:List V} {us:List Value} {tk:Nat}
theorem arr_size {ws:Array Value} (q:All2 (VR φ h) vs ws.toList):ws.size=vs.length:=q.length.symm
theorem vr_int {i:Int} {t:Tok}:(vr (C:=C) (.int i) (.int i t)).p σ:=⟨t,rfl⟩
theorem vr_bool {b:Bool}:(vr (C:=C) (.bool b) (.bool b)).p σ:=Eq.refl (Value.bool b)
theorem vr_none:(vr (C:=C) .none .none).p σ:=Eq.refl Value.none
theorem mkList_at (I:Inv C σ) {a:Addr} {ws:Array Value} {n:Nat} {vs:List V} (hk:∀ a o,σ.h.get? a=some o→h'.get? a=some o) (na:New σ.h a) (hl:LstAt h' a ws n) (q:All2 (VR σ.φ σ.h) vs ws.toList) (l:vs.length≤2 * lim) :
    Aft C ex σ (σ.H++[.list vs]) (vr (C:=C) (.ref σ.H.length) (.ref a)).p (Sh.on σ.s h' tk) :=
  ⟨σ.φ++[(a,a)],Le.push I hk (fun b d=>(show b=a from d.elim id id)▸na) fun S=>⟨ws,n,hl,l,rfl,q.mono fun _ _ z=>z.step S no_seq⟩,(a,a),by rw [I.hr.obj.length]; exact List.getElem?_concat_length,rfl⟩
theorem newList_ok (l:vs.length≤2 * lim):Sim C ex (vrs vs us) (wp C A (newList us)) (mkList vs) vr:=fun σ I q Q k =>
  wpAny_newList (k _ _ (mkList_at (tk:=σ.s.toks) (n:=0) (ws:=us.toArray) I push_keeps I.fresh (Heap.get?_push_size _ rfl) q l)) (by rw [← q.length]; exact size_ok l)
theorem SqAt.new (I:Inv C σ) {t:String} {ws:Array Value} {n:Nat} {o:Obj} (e:o={ cls:=.type t,data:=.seq ws n }) (q:All2 (VR σ.φ σ.h) vs ws.toList) :
    Le C ex σ (σ.at (σ.h.push o) tk)∧SqAt σ.φ (σ.h.push o) t (VRs σ.φ (σ.h.push o) vs) (.ref σ.h.objs.size):=by
  subst e
  exact ⟨Le.grow I push_keeps,_,ws,n,Heap.get?_push_size _ rfl,I.notOwn fresh_get,VRs.of (q.mono fun _ _ z=>z.step (Step.of_keeps (ex:=no) push_keeps) no_seq)⟩
theorem newTuple_ok (l:vs.length≤2 * lim):Sim C ex (vrs vs us) (wp C A (newTuple us)) (pur (.tup vs)) vr:=fun σ I q Q k =>
  have ⟨L,s⟩:=SqAt.new (ex:=ex) (tk:=σ.s.toks) (ws:=us.toArray) I rfl q
  wpAny_newObj_type (k _ _ (Aft.at L s)) (show us.toArray.size≤sizeLine by rw [List.size_toArray,← q.length]; exact size_ok l)
theorem floordiv_ok {s:Shared} {a b:Int} {t u:Tok} {Q:Value→Shared→Prop} (h0:0 < b) (h1:b < 1073741824) (h:Q (.int (a / b) s.toks) (Sh.tk s (s.toks + 1))) :
    wpAny (model C.prog C.w) A (binaryOp .FloorDiv (.int a t) (.int b u)) Q NE s:=by
  refine floordiv_int (by exact Int.ne_of_gt (by assumption)) ?_ (.inl (PyProof.noPylong_small (by omega)))
  rw [Int.fdiv_eq_ediv_of_nonneg a (by exact Int.le_of_lt (by assumption))]; exact h
theorem mod_ok {s:Shared} {a b:Int} {t u:Tok} {Q:Value→Shared→Prop} (h0:0 < b) (h:Q (.int (a % b) s.toks) (Sh.tk s (s.toks + 1))) :
    wpAny (model C.prog C.w) A (binaryOp .Mod (.int a t) (.int b u)) Q NE s:=by
  refine mod_int' (by lia) ?_
  rw [Int.fmod_eq_emod_of_nonneg a (by lia)]; exact h
noncomputable def GivesI (C:Ctx) (A:Around) (s:Shared) (t:Sem Value) (c:Int):Prop:=∀ Q:Value→Shared→Prop,Q (.int c s.toks) (Sh.tk s (s.toks + 1))→wpAny (model C.prog C.w) A t Q NE s
theorem arith_ok {op:Operator} {x y:Int} {i j:Tok} {s:Shared}:ok (arith op x y) (GivesI C A s (binaryOp op (.int x i) (.int y j))):=by
  rcases op<;>try trivial
  · exact fun Q k=>add_int k
  · exact fun Q k=>sub_int k
  · refine ok_cond fun h=>?_
    obtain ⟨h1,h2⟩:=and_tt h
    rw [small_iff] at h1 h2
    exact fun Q k=>mul_int k (.of_left (intBits_le_64 (by lia) (by lia)))
  · exact ok_cond fun h=>fun Q k=>mod_ok (of_decide_eq_true h) k
  · refine ok_cond fun h=>?_
    obtain ⟨h1,h2⟩:=and_tt h
    obtain ⟨h2,h3⟩:=and_tt h2
    have h2:=of_decide_eq_true h2
    have h3:=of_decide_eq_true h3
    rw [small_iff] at h1
    exact fun Q k=>pow_int_small (by omega) (by omega) (by omega) k
  · refine ok_cond fun h=>?_
    obtain ⟨h1,h2⟩:=and_tt h
    obtain ⟨h2,h3⟩:=and_tt h2
    have h2:=of_decide_eq_true h2
    have h3:=of_decide_eq_true h3
    rw [small_iff] at h1
    exact fun Q k=>lshift_int_small (by omega) (by lia) (by lia) k
  · refine ok_cond fun h=>?_
    obtain ⟨h1,h2⟩:=and_tt h
    exact fun Q k=>floordiv_ok (of_decide_eq_true h1) (of_decide_eq_true h2) k
theorem nil_of {ws:Array Value} (q:All2 (VR φ h) vs ws.toList) (e:ws.isEmpty=true):vs=[]:=List.length_eq_zero_iff.mp (q.length.trans (sz_nil e))
theorem cat_tup (I:Inv C σ) {xs ys:List V} (qa:VR σ.φ σ.h (.tup xs) a) (qb:VR σ.φ σ.h (.tup ys) b) (hl:xs.length + ys.length < lim) (Q:Value→Shared→Prop) (k:∀ u s',Aft C ex σ σ.H (vr (C:=C) (.tup (xs++ys)) u).p s'→Q u s') :
    wpAny (model C.prog C.w) A (binaryOp .Add a b) Q NE σ.s:=by
  have qa':=qa
  have qb':=qb
  obtain ⟨t,ws,n,ho,_,q1⟩:=qa
  obtain ⟨t',us,n',ho',_,q2⟩:=qb
  by_cases h1:ws.isEmpty=true
  · exact concat_meets ⟨_,ho,rfl⟩ ⟨_,ho',rfl⟩ noFill_tuple_add seq_tuple_add PySem.F.slot_tuple_add PySem.F.entry_tuple_add (PySem.F.args_tuple_add_2 _ _)
      (tuple_addW0 t t' ws us n n' none none #[] #[] h1) ⟨ho,ho',k _ _ (Aft.here I (by rw [nil_of q1.all h1]; exact qb'))⟩
  · by_cases h2:us.isEmpty=true
    · exact concat_meets ⟨_,ho,rfl⟩ ⟨_,ho',rfl⟩ noFill_tuple_add seq_tuple_add PySem.F.slot_tuple_add PySem.F.entry_tuple_add (PySem.F.args_tuple_add_2 _ _)
        (tuple_addW1 t t' ws us n n' none none #[] #[] h1 h2) ⟨ho,ho',k _ _ (Aft.here I (by rw [nil_of q2.all h2,List.append_nil]; exact qa'))⟩
    · have ⟨L,z⟩:=SqAt.new (ex:=ex) (tk:=σ.s.toks) (t:="tuple") (ws:=ws++us) (vs:=xs++ys) (n:=0) I rfl (by rw [Array.toList_append]; exact q1.all.append q2.all)
      exact concat_meets ⟨_,ho,rfl⟩ ⟨_,ho',rfl⟩ noFill_tuple_add seq_tuple_add PySem.F.slot_tuple_add PySem.F.entry_tuple_add (PySem.F.args_tuple_add_2 _ _)
        (tuple_addW2 t t' ws us n n' none none #[] #[] h1 h2 (by rw [arr_size q1.all,arr_size q2.all]; exact size_ok (Nat.le_trans (Nat.le_of_lt hl) (by decide)))) ⟨ho,ho',k _ _ (Aft.at L z)⟩
theorem bin_ok {op:Operator}:Sim C ex ((vr u a).and (vr v b)) (wp C A (binaryOp op a b)) (binV op u v) vr:=by
  intro σ I q
  have qa:VR σ.φ σ.h u a:=q.1
  have qb:VR σ.φ σ.h v b:=q.2
  rcases u with _ | _ | x | _ | xs | _ | r<;>try trivial
  · refine VR.int_e qa ?_
    intro i
    exact okR_bind (ok_int (K:=fun y b=>okR ((arith op x y).map fun z=>(V.int z,σ.H)) fun z H'=>∀ Q:Value→Shared→Prop,(∀ a s',Aft C ex σ H' (vr (C:=C) z a).p s'→Q a s')→wp C A (binaryOp op (.int x i) b) Q σ.s) qb fun y j _ =>
      okR_map (ok_mono (arith_ok (C:=C) (A:=A) (s:=σ.s) (i:=i) (j:=j)) fun c g=>fun Q k=>g Q (k _ _ (Aft.tk _ I vr_int))))
  · rcases v with _ | _ | _ | _ | ys | _ | _<;>try trivial
    refine okR_cond fun h=>?_
    obtain ⟨h1,h2⟩:=and_tt h
    cases eq_of_beq h1
    exact cat_tup I qa qb (of_decide_eq_true h2)
  · rcases v with _ | _ | _ | _ | _ | _ | q<;>try trivial
    refine okR_bind (ok_listAt fun xs e1=>okR_bind (ok_listAt fun ys e2=>okR_cond fun h=>?_))
    obtain ⟨h1,h2⟩:=and_tt h
    cases eq_of_beq h1
    refine I.list e1 qa fun p ws n x=>?_
    refine I.list e2 qb fun p' us m y=>?_
    have hl:=of_decide_eq_true h2
    exact fun Q k=>P.add_list x.lst y.lst (k _ _ (mkList_at (tk:=σ.s.toks) (n:=0) I push_keeps I.fresh (Heap.get?_push_size _ rfl) (by rw [Array.toList_append]; exact x.all.append y.all) (by rw [List.length_append]; exact Nat.le_trans (Nat.le_of_lt hl) (by decide))))
      (by rw [x.size,y.size]; exact size_ok (Nat.le_trans (Nat.le_of_lt hl) (by decide)))
theorem aug_ok {op:Operator} {x y:Int} {i j:Tok} {s:Shared}:ok (augV op x y) (GivesI C A s (inplaceOp op (.int x i) (.int y j))):=by
  rcases op<;>try trivial
  · exact fun Q k=>iadd_int k
  · exact fun Q k=>isub_int k
noncomputable def GivesV (C:Ctx) (A:Around) (σ:Wo) (t:Sem Value) (v:V):Prop:=∀ Q:Value→Shared→Prop,(∀ u tk,VR σ.φ σ.h v u→Q u (Sh.tk σ.s tk))→wpAny (model C.prog C.w) A t Q NE σ.s
theorem GivesV.sim {P:Mp C} {t:Sem Value} {f:Hp→Option V} (x:∀ σ,Inv C σ→P.p σ→ok (f σ.H) (GivesV C A σ t)):Sim C ex P (wp C A t) (fun H=>lft (f H) H) vr:=fun σ I p =>
  okR_lft (ok_mono (x σ I p) fun v g Q k=>g Q fun u tk q=>k _ _ (Aft.tk tk I q))
theorem ok_idx {ws:Array Value} {k:Int} {K:V→Prop} (q:All2 (VR φ h) vs ws.toList) (k1:∀ v u,0≤k→ws[k.toNat]?=some u→k < ws.size→VR φ h v u→K v)
    (k2:∀ v u,k < 0→-(ws.size:Int)≤k→ws[(k + ws.size).toNat]?=some u→VR φ h v u→K v):ok (idx vs k) K:=by
  have l:=arr_size q
  have get:∀ {i:Nat} {v:V},vs[i]?=some v→∃ u,ws[i]?=some u∧VR φ h v u:=fun e=>let ⟨u,hu,z⟩:=q.get' e; ⟨u,Array.getElem?_toList.symm.trans hu,z⟩
  unfold idx
  rcases h0:decide (0≤k) with _ | _
  · refine ok_cond fun h1=>ok_of fun v e=>?_
    obtain ⟨u,hu,z⟩:=get e
    exact k2 v u (Int.not_le.mp (of_decide_eq_false h0)) (l▸of_decide_eq_true h1) (by rw [l,Int.add_comm]; exact hu) z
  · refine ok_of fun v e=>?_
    obtain ⟨u,hu,z⟩:=get e
    have:=(Array.getElem?_eq_some_iff.mp hu).1
    have h0:=of_decide_eq_true h0
    exact k1 v u h0 hu (by simp_all) z
theorem seq_at {k:Int} {m:Nat} (h0:k < 0) (h1:-(m:Int)≤k):seqIndex? k m=some (k + m).toNat:=by
  unfold seqIndex?
  rw [if_pos h0]
  exact if_pos (by rw [Bool.and_eq_true,decide_eq_true_eq,decide_eq_true_eq]; lia)
theorem item_list {l:Addr} {ws:Array Value} (hl:σ.h.IsList l ws) (q:All2 (VR σ.φ σ.h) vs ws.toList) (qb:VR σ.φ σ.h v b):ok (idxS v vs) (GivesV C A σ (getItem (.ref l) b)) :=
  ok_bind (ok_int (K:=fun k b=>ok (cond (small k) (idx vs k) none) (GivesV C A σ (getItem (.ref l) b))) qb fun k t _=>ok_cond fun hs=>by
    rw [small_iff] at hs
    exact ok_idx q (fun v u h0 hx _ z Q K=>wpAny_getItem_list hl h0 (by lia) hx (K _ _ z)) (fun v u h0 h1 hx z Q K=>wpAny_getItem_list_neg hl h0 h1 (by lia) hx (K _ _ z)))
theorem sub_ok (hu:A.units + 64 < cLine):Sim C ex ((vr u a).and (vr v b)) (wp C A (getItem a b)) (fun H=>lft (subV u v H) H) vr:=GivesV.sim fun σ I ⟨qa,qb⟩=>by
  rcases u with _ | _ | _ | _ | xs | xs | r<;>try trivial
  · obtain ⟨l,ws,n,ho,_,q⟩:=qa
    refine ok_bind (ok_int (K:=fun k b=>ok (cond (small k) (idx xs k) none) (GivesV C A σ (getItem (.ref l) b))) qb fun k t _=>ok_cond fun hs=>?_)
    rw [small_iff] at hs
    exact ok_idx q.all (fun v u h0 hx hi z Q K=>PyProof.Rows.getItem_tuple ⟨_,ho,rfl,n,rfl⟩ (by (first | lia | omega +splitDisjunctions)) (by (first | lia | omega +splitDisjunctions)) (seqIndex_of h0 hi) hx (K _ _ z))
      (fun v u h0 h1 hx z Q K=>PyProof.Rows.getItem_tuple ⟨_,ho,rfl,n,rfl⟩ (by (first | lia | omega +splitDisjunctions)) (by (first | lia | omega +splitDisjunctions)) (seq_at h0 h1) hx (K _ _ z))
  · obtain ⟨l,ws,n,ho,_,q⟩:=qa
    exact item_list (C:=C) (A:=A) ho q.all qb
  · refine ok_els (ok_bind (ok_listAt fun xs e=>I.list (K:=fun a=>ok _ (GivesV C A σ (getItem a b))) e qa fun p ws n x=>item_list x.lst.isList x.all qb)) (ok_els (ok_bind (ok_dictAt fun es e=>I.dict (K:=fun a=>ok _ (GivesV C A σ (getItem a b))) e qa fun p hp x=>?_)) (ok_bind (ok_mono (I.td (K:=fun es a=>ok ((keyT v).bind fun k=>tget k es) (GivesV C A σ (getItem a b))) qa fun es p hp x=>?_) fun _ z=>z)))
    · obtain ⟨ka,hd,_,_,_,hq⟩:=x
      have hm:=hd.mapOf.intMap
      refine ok_bind (ok_int (K:=fun k b=>ok (dget k es) (GivesV C A σ (getItem _ b))) qb fun k t _=>ok_of fun v e=>?_)
      have z:=hq k
      rw [e] at z
      obtain ⟨x,hx,qx⟩:=z.get
      exact fun Q K=>wpAny_getItem_intMap hm hx (K _ _ qx)
    · obtain ⟨xs,hd,_,_,_,_,hq⟩:=x
      refine ok_bind (ok_keyT (C:=C) (K:=fun is b=>ok (tget is es) (GivesV C A σ (getItem _ b))) qb fun is l hk _=>ok_of fun v e=>?_)
      have z:=hq is
      rw [e] at z
      obtain ⟨x,hx,qx⟩:=z.get
      obtain ⟨y,hy,rfl⟩:=Option.map_eq_some_iff.mp hx
      exact fun Q K=>wpAny_getItem_heap (knd:=tupleKind (intKind C.prog C.w)) (tupleKind_room_in1 (by (first | lia | omega +splitDisjunctions))) hk hd hy (K _ _ qx)
end
end Mine
end
section
open PySem PySem.W PySem.Calls PyProof.Rows
namespace Mine
theorem fm_congr {α β:Type} {f g:α→Option β} {l:List α}:(∀ x,x∈l→f x=g x)→l.filterMap f=l.filterMap g:=by
  induction l with
  | nil=>exact fun _=>rfl
  | cons a l ih=>exact fun h=>by rw [List.filterMap_cons,List.filterMap_cons,h a (.head _),ih fun x hx=>h x (.tail _ hx)]
theorem zip_lookup {as:List Str}:∀ {ws:List Value},ws.length=as.length→as.Nodup→as.filterMap (fun n=>((as.zip ws).lookup n).map (n,·))=as.zip ws∧as.filter (fun n=>((as.zip ws).lookup n).isNone)=[]:=by
  induction as with
  | nil=>exact fun _ _=>⟨rfl,rfl⟩
  | cons a as ih =>
    intro ws l nd
    rcases ws with _ | ⟨w,ws⟩
    · exact nomatch l
    · have nd:=List.nodup_cons.mp nd
      have ⟨h1,h2⟩:=ih (Nat.succ.inj l) nd.2
      have e0:List.lookup a ((a,w)::as.zip ws)=some w:=by rw [List.lookup_cons,beq_self_eq_true]
      have key:∀ n,n∈as→List.lookup n ((a,w)::as.zip ws)=(as.zip ws).lookup n:=fun n hn=>by
        have ne:n≠a:=fun e=>nd.1 (e▸hn)
        rw [List.lookup_cons,beq_eq_false_iff_ne.mpr ne]
      refine ⟨?_,?_⟩
      · rw [List.zip_cons_cons,List.filterMap_cons,e0,fm_congr fun n hn=>congrArg (Option.map (n,·)) (key n hn),h1]; rfl
      · exact (List.filter_cons_of_neg (by show ¬ (List.lookup a ((a,w)::as.zip ws)).isNone=true; rw [e0]; exact Bool.false_ne_true)).trans ((List.filter_congr fun n hn=>congrArg Option.isNone (key n hn)).trans h2)
noncomputable def arN (as:List PySem.Arg):List Str:=as.map fun (a:PySem.Arg)=>a.arg
theorem for_nil {α β γ:Type} {l:List α} {s:β} {f:α→β→Sem (ForInStep β)} {k:β→Sem γ} (h:l=[]):(forIn l s f >>= k)=k s:=by subst h; rfl
noncomputable def fdOf (name qual:Str) (as:List PySem.Arg) (body:List PySem.Stmt) (sc:Scope) (doc pm:Value) (an:Option Addr) (cd ct:Value):FuncData :=
  { name:=name,qualname:=qual,params:=⟨[],as,none,[],[],none,[]⟩,body:=.stmts body,scope:=sc,globals:=mainGlobals,closure:=[],defaults:=.none,kwdefaults:=.none,doc:=doc,pyModule:=pm,annotations:=an,code:=cd,closureTuple:=ct,builtins:=builtinsNs }
theorem bind_pos {name qual:Str} {as:List PySem.Arg} {body:List PySem.Stmt} {sc:Scope} {doc pm:Value} {an:Option Addr} {cd ct:Value} {ws:List Value} (hn:(arN as).Nodup) (hl:ws.length=(arN as).length) :
    bindArgs (fdOf name qual as body sc doc pm an cd ct) ⟨ws,[]⟩=pure ((arN as).zip ws):=by
  have ⟨e2,e1⟩:=zip_lookup hl hn
  have d0:∀ n,List.drop n ([]:List Value)=[]:=fun n=>List.drop_nil
  refine (if_neg ?_).trans ((if_neg ?_).trans ((for_nil ?_).trans (Eq.trans (b:=(pure ((arN as++[]).filterMap fun n=>(((arN as).zip ws).lookup n).map (n,·)):Sem _)) rfl ?_)))
  · rw [hl]; exact fun h=>absurd (of_decide_eq_true (and_tt h).1) (Nat.lt_irrefl _)
  · show ¬ (!(List.filter (fun n=>(((arN as).zip ws).lookup n).isNone) (List.take ((arN as).length - (List.drop (0 - (arN as).length) ([]:List Value)).length) (arN as))).isEmpty)=true
    rw [d0,List.length_nil,Nat.sub_zero,List.take_length,e1]; exact Bool.false_ne_true
  · show (List.drop ((arN as).length - (List.drop (0 - (arN as).length) ([]:List Value)).length) (arN as)).zip (List.drop (0 - (arN as).length) ([]:List Value))=[]
    rw [d0]; exact List.zip_nil_right
  · rw [List.append_nil,e2]
end Mine
end
section
open PySem PySem.W PySem.Calls PyProof.Rows
namespace Mine
noncomputable def scopeOk (pars:List Str) (sc:Scope):Bool :=
  sc.kind == .function && !sc.isCoroutine && !sc.isGenerator && decide ((sc.names.map (·.1)).Nodup) && decide ((slotNames pars sc.names).Nodup) &&
  pars.all (fun x=>sc.names.lookup x == some .local || sc.names.lookup x == some .cell) && sc.names.all fun p=>p.2 != .free
inductive FnOk (C:Ctx) (fi:FI) (a:Addr):Prop
  | mk (oc:Value) (od:Option Addr) (osl:Array (Option Value)) (name qual:Str) (as:List PySem.Arg) (body:List PySem.Stmt) (sc:Scope) (doc pm:Value) (an:Option Addr) (cd ct:Value) (fuel:Nat) :
    C.K.lookup a=some ⟨oc,od,.func (fdOf name qual as body sc doc pm an cd ct),osl⟩→(arN as).Nodup→(arN as).length=fi.npar→codeIn C.K cd qual=true→scopeOk (arN as) sc=true →
    (fnCx (arN as) sc).n=fi.nloc→fi.code=body.map (trS C.W (fnCx (arN as) sc) fuel)→isFn C.K (.ref a)=true→FnOk C fi a
structure ClsOk (C:Ctx) (ci:CI) (a:Addr):Prop where
  makes:makesIn C.K a=true
  dict:hasDictIn C.K a=true
  over:plainOver C.K a=true
  ga:findIn C.K (.ref a) "__getattribute__"=some (some (.builtin "object.__getattribute__"))
  gat:findIn C.K (.ref a) "__getattr__"=some none
  sa:findIn C.K (.ref a) "__setattr__"=some (some (.builtin "object.__setattr__"))
  init:∃ fa,C.fa[ci.init]?=some fa∧findIn C.K (.ref a) "__init__"=some (some (.ref fa))
  few:ci.fields.length≤900
  fields:∀ f,f∈ci.fields→∃ x:Str,C.W.nm[f]?=some x∧findIn C.K (.ref a) x=some none
  meths:∀ m f,ci.meths.lookup m=some f→∃ (x:Str) (fa:Addr),C.W.nm[m]?=some x∧C.fa[f]?=some fa∧findIn C.K (.ref a) x=some (some (.ref fa))∧m∉ci.fields
noncomputable def biV:Nat→Value
  | 0=>.builtin "len"
  | 1=>.builtin "sorted"
  | 2=>.builtin "min"
  | 3=>.builtin "any"
  | _=>.type "range"
noncomputable def GOk (C:Ctx) (mg mb:Str→Option Value) (x:Str):GV→Prop
  | .val v=>∃ u,mg x=some u∧∀ φ h,VR φ h v u
  | .fn i=>∃ a,C.fa[i]?=some a∧mg x=some (.ref a)
  | .cls i=>∃ a,C.ca[i]?=some a∧mg x=some (.ref a)
  | .bi n=>mg x=none∧mb x=some (biV n)
structure Stat (C:Ctx):Prop where
  kin:C.K.In C.h₀
  lim:C.h₀.NoLimit
  glob:∃ mg mb,C.h₀.Ns mainGlobals mg∧C.h₀.Ns builtinsNs mb∧∀ x gv,C.W.g.lookup x=some gv→GOk C mg mb x gv
  fns:∀ (i:Nat) (a:Addr),C.fa[i]?=some a→∃ fi,C.T.fn[i]?=some fi∧FnOk C fi a
  clss:∀ (i:Nat) (ci:CI) (a:Addr),C.T.cls[i]?=some ci→C.ca[i]?=some a→ClsOk C ci a
  clsA:∀ (i:Nat) (a:Addr),C.ca[i]?=some a→∃ ci,C.T.cls[i]?=some ci
  nm:C.W.nm.Nodup
theorem Stat.isFn {C:Ctx} (St:Stat C) {i:Nat} {a:Addr} (h:C.fa[i]?=some a):isFn C.K (.ref a)=true:=by
  obtain ⟨fi,_,_,_,_,_,_,_,_,_,_,_,_,_,_,_,_,_,_,_,_,_,_,h⟩:=St.fns i a h
  exact h
theorem idxOf_get {x:Str}:∀ {l:List Str} {i j:Nat},idxOf x l i=some j→∃ k,j=i + k∧l[k]?=some x:=by
  intro l
  induction l with
  | nil=>exact fun e=>nS e
  | cons y ys ih =>
    intro i j e
    have e:cond (y == x) (some i) (idxOf x ys (i + 1))=some j:=e
    rcases h:y == x with _ | _
    · rw [h] at e
      obtain ⟨k,e1,e2⟩:=ih e
      exact ⟨k + 1,by lia,e2⟩
    · rw [h] at e
      exact ⟨0,(Option.some.inj e).symm,congrArg some (eq_of_beq h)⟩
theorem attr_get {W:Wd} {a:Str} {f:Nat} (e:W.attr a=some f):W.nm[f]?=some a:=by
  obtain ⟨k,e1,e2⟩:=idxOf_get e
  rw [e1,Nat.zero_add]; exact e2
theorem nodup_get {l:List Str} (h:l.Nodup) {i j:Nat} {x:Str} (a:l[i]?=some x) (b:l[j]?=some x):i=j:=by
  obtain ⟨hi,e1⟩:=List.getElem?_eq_some_iff.mp a
  obtain ⟨hj,e2⟩:=List.getElem?_eq_some_iff.mp b
  exact (List.getElem_inj h).mp (e1.trans e2.symm)
theorem isStr_eq {x:Str} {t:Tok} {y:Str}:(Value.str x t).isStr y=(x == y):=rfl
section
variable {φ:Phi} {h:Heap} {nm:List Str} {f:Nat} {x:Str} {fs:List (Nat×V)} {ds:List DictEntry}
noncomputable def FG (φ:Phi) (h:Heap):Option V→Option DictEntry→Prop
  | none,none=>True
  | some v,some e=>VR φ h v e.val
  | _,_=>False
theorem fr_get (hn:nm.Nodup) (hx:nm[f]?=some x) (q:All2 (FR nm φ h) fs ds):FG φ h (fget f fs) (ds.find? fun e=>e.key.isStr x)∧ds.any (·.refKey)=false:=by
  induction q with
  | nil=>exact ⟨trivial,rfl⟩
  | @cons p e fs es a r ih =>
    obtain ⟨y,t,hy,ht,hv⟩:=a
    have hr:e.refKey=false:=by unfold DictEntry.refKey; rw [ht]
    refine ⟨?_,by rw [List.any_cons,hr]; exact ih.2⟩
    rw [List.find?_cons,ht,isStr_eq]
    show FG φ h (if (p.1 == f)=true then some p.2 else fget f fs) _
    by_cases e:p.1=f
    · rw [e,hx] at hy
      rw [Option.some.inj hy,beq_self_eq_true,if_pos (beq_iff_eq.mpr e)]; exact hv
    · rw [beq_eq_false_iff_ne.mpr fun z=>e (nodup_get hn (hy.trans (congrArg some z)) hx),if_neg fun z=>e (eq_of_beq z)]; exact ih.1
theorem fget_mem {v:V} (e:fget f fs=some v):(f,v)∈fs:=by
  induction fs with
  | nil=>exact nS e
  | cons p fs ih =>
    have e:(if (p.1 == f)=true then some p.2 else fget f fs)=some v:=e
    by_cases z:(p.1 == f)=true
    · rw [if_pos z] at e
      rw [← eq_of_beq z,← Option.some.inj e]; exact .head _
    · rw [if_neg z] at e; exact .tail _ (ih e)
end
section
variable {C:Ctx} {σ:Wo} {A:Around} {ex:Addr→Prop} {φ:Phi} {h:Heap} {u v:V} {a b:Value} {r f m:Nat} {nm:Str}
theorem okR_getI (I:Inv C σ) {K:Nat×List (Nat×V)→Hp→Value→Prop} (q:VR σ.φ σ.h u a) (k:∀ r p c fs,u=.ref r→σ.φ[r]?=some p→σ.H[r]?=some (.inst c fs)→OI C σ.φ σ.h c fs p→K (c,fs) σ.H (.ref p.1)):okR (insR u σ.H) fun x H=>K x H a:=by
  rcases u with _ | _ | _ | _ | _ | _ | r<;>try trivial
  exact okR_lft (ok_instAt fun c fs e=>I.look (K:=fun a=>K (c,fs) σ.H a) e q fun p hp z=>k r p c fs rfl hp e z)
theorem instAt' {x d c:Addr} {ds:List DictEntry} {n:Nat} (a:h.get? x=some (instObj c d)) (b:h.get? d=some (dictOf ds n)):InstAt h x (instObj c d) c (some (dictOf ds n)):=⟨a,rfl,rfl,b⟩
theorem handed (q:VR φ h v a):handedIn a=true:=by
  rcases v with _ | b | i | b | vs | vs | r
  · exact VR.none_e (K:=fun a=>handedIn a=true) q rfl
  · exact VR.bool_e (K:=fun a=>handedIn a=true) q rfl
  · exact let ⟨_,e⟩:=q; e▸rfl
  · exact let ⟨_,e⟩:=q; e▸rfl
  · obtain ⟨_,_,_,_,_,_⟩:=q; rfl
  · obtain ⟨_,_,_,_,_,_⟩:=q; rfl
  · exact let ⟨_,_,e⟩:=q; e▸rfl
theorem Inv.kin (I:Inv C σ) (St:Stat C):C.K.In σ.h:=St.kin.keeps I.base
theorem attr_ok {expr:Bool} (St:Stat C) (ha:C.W.attr nm=some f):Sim C ex (vr u a) (wp C A (getAttr a nm expr)) (attrR f u) vr:=fun σ I q =>
  okR_bnd (okR_getI (K:=fun x H a=>okR (lft (fget f x.2) H) fun b H'=>∀ Q:Value→Shared→Prop,(∀ z s',Aft C ex σ H' (vr (C:=C) b z).p s'→Q z s')→wp C A (getAttr a nm expr) Q σ.s) I q fun r p c fs _ _ _ z=>okR_lft (ok_of fun v e Q k=>by
    obtain ⟨ci,ca,ds,n,e1,e2,e3,e4,_,ff,_,fr⟩:=z
    have CO:=St.clss c ci ca e1 e2
    obtain ⟨x,hx,hfi⟩:=CO.fields f (ff _ (fget_mem e))
    cases Option.some.inj ((attr_get ha).symm.trans hx)
    have g:=(fr_get St.nm hx fr).1
    rw [e] at g
    rcases hd:ds.find? fun e=>e.key.isStr nm with _ | w
    · rw [hd] at g; exact g.elim
    · rw [hd] at g
      have hl:lookIn nm (dictOf ds n)=some (some w.val):=by rw [lookIn_dict]; unfold getL; rw [hd]
      exact get_value (I.kin St) (instAt' e3 e4) CO.ga (findObj_own CO.dict hfi rfl hl) (handed g) (k _ _ (Aft.tk _ I g))))
theorem meth_ok {pl:Sem Bool} (St:Stat C) (ha:C.W.attr nm=some m):Sim C ex (vr u a) (wp C A (getMethod a nm pl)) (methR C.T m u) fun i p=>(pr (∃ fa,C.fa[i]?=some fa∧p=(.ref fa,[a]))):=fun σ I q =>
  okR_bnd (okR_getI (K:=fun x H a=>okR (bnd (lft C.T.cls[x.1]?) (fun ci=>lft (ci.meths.lookup m)) H) fun i H'=>∀ Q:Value×List Value→Shared→Prop,(∀ z s',Aft C ex σ H' (pr (C:=C) (∃ fa,C.fa[i]?=some fa∧z=(.ref fa,[a]))).p s'→Q z s')→wp C A (getMethod a nm pl) Q σ.s) I q fun r p c fs _ _ _ z =>
    okR_bnd (okR_lft (ok_of fun ci hci=>okR_lft (ok_of fun f hm Q k=>by
      obtain ⟨ci',ca,ds,n,e1,e2,e3,e4,_,ff,_,fr⟩:=z
      cases Option.some.inj (hci.symm.trans e1)
      have CO:=St.clss c ci ca e1 e2
      obtain ⟨x,fa,hx,hfa,hfm,hnf⟩:=CO.meths m f hm
      cases Option.some.inj ((attr_get ha).symm.trans hx)
      have g:=fr_get St.nm hx fr
      rcases hg:fget m fs with _ | v
      · rw [hg] at g
        rcases hd:ds.find? fun e=>e.key.isStr nm with _ | w
        · refine method_fn (I.kin St) (instAt' e3 e4) CO.ga CO.gat hfm (beq_iff_eq.mp (St.isFn hfa)) ?_ (k _ _ (Aft.here I ⟨fa,hfa,rfl⟩))
          show (lookIn nm (dictOf ds n)).map _=_
          rw [lookIn_dict]
          unfold getL
          rw [hd,g.2]; rfl
        · rw [hd] at g; exact g.1.elim
      · exact absurd (ff _ (fget_mem hg)) hnf))))
end
end Mine
end
section
open PySem PySem.W PySem.Calls PyProof.Rows
namespace Mine
noncomputable def Hold (φ:Phi) (h:Heap) (o:Option (Option V)) (w:Option Value):Prop:=∀ v,o=some (some v)→∃ u,w=some u∧VR φ h v u
inductive SlotR (φ:Phi) (h:Heap) (env:Env) (m:Str→Option Value) (x:Str) (o:Option (Option V)):Prop
  | loc:env.kindOf x=some .local→Hold φ h o (m x)→SlotR φ h env m x o
  | cell (c:Addr) (vo:Option Value):env.kindOf x=some .cell→env.cells.lookup x=some c→h.IsCell c vo→Hold φ h o vo→SlotR φ h env m x o
structure EnvS (C:Ctx) (Γ:Cx) (env:Env):Prop where
  kind:env.scope.kind=.function
  glob:env.globals=mainGlobals
  blt:env.builtins=builtinsNs
  gnames:∀ x,Γ.names.lookup x=some .globalImplicit→env.kindOf x=some .globalImplicit
  cnames:∀ x,Γ.names.lookup x=some .cell→env.kindOf x=some .cell
  lt:∀ x i,Γ.sl.lookup x=some i→i < Γ.n
  inj:∀ x y i,Γ.sl.lookup x=some i→Γ.sl.lookup y=some i→x=y
  cinj:∀ x y c,env.cells.lookup x=some c→env.cells.lookup y=some c→x=y
  lbase:C.h₀.get? env.locals=none
  cbase:∀ x c,env.cells.lookup x=some c→C.h₀.get? c=none
structure EnvR (C:Ctx) (Γ:Cx) (env:Env) (ρ:En) (φ:Phi) (h:Heap):Prop where
  S:EnvS C Γ env
  len:ρ.length=Γ.n
  loc:∃ m,h.Ns env.locals m∧∀ x i,Γ.sl.lookup x=some i→SlotR φ h env m x ρ[i]?
  lown:¬ Own φ env.locals
  cown:∀ x c,env.cells.lookup x=some c→¬ Own φ c
  clive:∀ x c,env.cells.lookup x=some c→∃ vo,h.IsCell c vo
section
variable {C:Ctx} {Γ:Cx} {env:Env} {ρ:En} {φ φ':Phi} {h h':Heap}
theorem Hold.step {ex:Addr→Prop} (S:Step ex φ h φ' h') (hx:Qt h ex) {o:Option (Option V)} {w:Option Value} (q:Hold φ h o w):Hold φ' h' o w:=fun v e=>let ⟨u,e1,z⟩:=q v e; ⟨u,e1,z.step S hx⟩
theorem EnvR.step (E:EnvR C Γ env ρ φ h) (S:Step no φ h φ' h'):EnvR C Γ env ρ φ' h':=by
  have ⟨m,⟨o,es,ep,ho,r⟩,hl⟩:=E.loc
  have cell:∀ x c vo,env.cells.lookup x=some c→h.IsCell c vo→h'.IsCell c vo:=fun x c vo hc ⟨oc,hoc,hd⟩=>⟨oc,S.keep _ _ hoc (E.cown x c hc) id,hd⟩
  refine ⟨E.S,E.len,⟨m,⟨o,es,ep,S.keep _ _ ho E.lown id,r⟩,fun x i hx=>?_⟩,S.notOwn ho E.lown,fun x c hc=>?_,fun x c hc=>let ⟨vo,hv⟩:=E.clive x c hc; ⟨vo,cell x c vo hc hv⟩⟩
  · rcases hl x i hx with ⟨a,b⟩ | ⟨c,vo,a,hc,hcell,b⟩
    · exact .loc a (b.step S no_seq)
    · exact .cell c vo a hc (cell x c vo hc hcell) (b.step S no_seq)
  · obtain ⟨vo,oc,hoc,_⟩:=E.clive x c hc
    exact S.notOwn hoc (E.cown x c hc)
noncomputable def evr (Γ:Cx) (env:Env) (ρ:En):Mp C:=⟨fun σ=>EnvR C Γ env ρ σ.φ σ.h,fun a E=>E.step a.st⟩
end
structure Cf (d:Nat) (A:Around):Prop where
  hd:A.handled=none
  dep:A.depth + 4 * d + 2≤950
  un:A.units + 40 * d + 10≤9000
structure Cd (d:Nat) (A:Around):Prop where
  hd:A.handled=none
  dep:A.depth + 4 * d≤950
  un:A.units + 40 * d≤9000
theorem cLine_eq:cLine=9900:=rfl
section
variable {d:Nat} {A:Around} {env:Env}
theorem Cf.room (c:Cf d A):A.units + 64 < cLine:=by have:=c.un; rw [cLine_eq]; lia
theorem Cd.below (c:Cd d A):A.depth < recursionLimit:=by have:=c.dep; show A.depth < 1000; lia
theorem Cd.deeper (c:Cd (d + 1) A):Cf d (A.deeper env) :=
  ⟨c.hd,by have:=c.dep; show A.depth + 1 + 4 * d + 2≤950; lia,by have:=c.un; show A.units + 3 + 40 * d + 10≤9000; lia⟩
theorem Cf.call (c:Cf d A):Cd d A:=⟨c.hd,by have:=c.dep; lia,by have:=c.un; lia⟩
theorem Cf.make {C:Addr} {ws:List Value} (c:Cf d A):Cd d (A.under (.builtin "type.__call__" ⟨.ref C::ws,[]⟩)) :=
  ⟨c.hd,by have:=c.dep; show A.depth + 1 + 4 * d≤950; lia,by
    have:=c.un
    have:(Code.builtin "type.__call__" ⟨.ref C::ws,[]⟩).cUnits≤8:=Nat.le_of_ble_eq_true rfl
    show A.units + (Code.builtin "type.__call__" ⟨.ref C::ws,[]⟩).cUnits + 40 * d≤9000; lia⟩
end
section
variable (C:Ctx) (d m:Nat)
noncomputable def cwp (A:Around) (c:Code):Tr Value:=fun Q s=>codeAny (model C.prog C.w) A c (fun r s'=>∃ u,r=.ok (.ret u)∧Q u s') s
noncomputable def SF:Prop:=∀ (A:Around) (i:Nat) (a:Addr) (vs:List V) (us:List Value),Cd d A→C.fa[i]?=some a→Sim C no (vrs vs us) (cwp C A (.call (.ref a) ⟨us,[]⟩)) (evF C.T d i vs) vr
noncomputable abbrev runX:X→En→Rn V:=(ev C.T (evF C.T d) m).x
noncomputable def SXe (Γ:Cx) (env:Env) (A:Around) (ρ:En) (e:PySem.Expr) (x:X):Prop:=Sim C no (evr Γ env ρ) (wp C A (eval e env)) (runX C d m x ρ) vr
noncomputable def SX (t:Cx→PySem.Expr→X):Prop:=∀ (Γ:Cx) (env:Env) (A:Around) (ρ:En) (e:PySem.Expr),Cf d A→SXe C d m Γ env A ρ e (t Γ e)
noncomputable def STe (Γ:Cx) (env:Env) (A:Around) (ρ:En) (e:PySem.Expr) (x:X):Prop:=Sim C no (evr Γ env ρ) (wp C A (isTrue e env (eval e env))) (bnd (runX C d m x ρ) truR) eqm
noncomputable def ST (t:Cx→PySem.Expr→X):Prop:=∀ (Γ:Cx) (env:Env) (A:Around) (ρ:En) (e:PySem.Expr),Cf d A→STe C d m Γ env A ρ e (t Γ e)
end
section
variable {C:Ctx} {d m:Nat} {A:Around} {ex:Addr→Prop} {α β:Type} {P:Mp C} {R:β→α→Mp C} {Γ:Cx} {env:Env} {ρ:En} {t:Cx→PySem.Expr→X} {e:PySem.Expr} {x:X} {pos:Pos}
theorem Sim.pure {a:α} {b:β} (h:∀ σ,P.p σ→(R b a).p σ):Sim C ex P (fun Q s=>Q a s) (pur b) R:=fun σ I p Q k=>k _ _ (Aft.here I (h σ p))
theorem Sim.bool {w:Bool→Tr α} {f:Bool→Rn β} (h1:Sim C ex P (w true) (f true) R) (h2:Sim C ex P (w false) (f false) R) (b a:Bool):Sim C ex (P.and (eqm b a)) (w a) (f b) R:=fun σ I ⟨p,q⟩=>by
  have q:a=b:=q
  subst q
  rcases a with _ | _
  · exact h2 σ I p
  · exact h1 σ I p
theorem SXe.bad:SXe C d m Γ env A ρ e .bad:=by
  rcases m with _ | m<;>exact Sim.non
theorem SXe.cond {b:Bool} (h:b=true→SXe C d m Γ env A ρ e x):SXe C d m Γ env A ρ e (_root_.cond b x .bad):=by
  rcases b with _ | _
  · exact SXe.bad
  · exact h rfl
theorem SXe.dnoc {b:Bool} (h:b=false→SXe C d m Γ env A ρ e x):SXe C d m Γ env A ρ e (_root_.cond b .bad x):=by
  rcases b with _ | _
  · exact h rfl
  · exact SXe.bad
theorem SXe.attr {a:Str} {f:Nat→X} (h:∀ i,C.W.attr a=some i→SXe C d m Γ env A ρ e (f i)):SXe C d m Γ env A ρ e (withAttr C.W a f):=by
  unfold withAttr
  rcases ha:C.W.attr a with _ | i
  · exact SXe.bad
  · exact h i ha
theorem sx_Constant {c:Const} {q:Nat}:SXe C d (m + 1) Γ env A ρ (.Constant c q pos) (trConst c):=by
  rcases c<;>try exact SXe.bad
  · exact fun σ I _ Q k=>Constant_none (k _ _ (Aft.here I vr_none))
  · exact fun σ I _ Q k=>Constant_bool (k _ _ (Aft.here I vr_bool))
  · exact fun σ I _ Q k=>wpAny_Constant_int (k _ _ (Aft.tk _ I vr_int))
  · exact fun σ I _ Q k=>fun _ _ _=>k _ _ (Aft.tk _ I ⟨_,rfl⟩)
theorem glob_of {W:Wd} {x:Str} {K:Option GV→Prop} (k0:K none) (k:∀ g,Γ.names.lookup x=some .globalImplicit→W.g.lookup x=some g→K (some g)):K (glob W Γ x):=by
  unfold glob
  rcases h:Γ.names.lookup x == some .globalImplicit with _ | _
  · exact k0
  · rcases h':W.g.lookup x with _ | g
    · exact k0
    · exact k g (eq_of_beq h) h'
theorem name_glob {σ:Wo} {u:Value} {x:Str} {Q:Value→Shared→Prop} {mg mb:Str→Option Value} (I:Inv C σ) (E:EnvR C Γ env ρ σ.φ σ.h) (hd:(x == ("__debug__":Str))=false) (hn:Γ.names.lookup x=some .globalImplicit)
    (h1:C.h₀.Ns mainGlobals mg) (h2:C.h₀.Ns builtinsNs mb) (hu:mg x=some u∨mg x=none∧mb x=some u) (k:Q u σ.s):wpAny (model C.prog C.w) A (eval (.Name x pos) env) Q NE σ.s:=by
  refine Name_function_global E.S.kind (E.S.gnames x hn) ?_ hd
  rcases hu with hu | ⟨hu,hb⟩
  · exact loadGlobal_global (E.S.glob▸h1.keeps I.base) hu k
  · exact loadGlobal_builtin (E.S.glob▸h1.keeps I.base) hu (E.S.blt▸h2.keeps I.base) hb k
theorem name_val {σ:Wo} {x:Str} {v:V} {K:GV→Prop} (St:Stat C) (I:Inv C σ) (E:EnvR C Γ env ρ σ.φ σ.h) (hd:(x == ("__debug__":Str))=false) (hn:Γ.names.lookup x=some .globalImplicit) (hg:C.W.g.lookup x=some (.val v)) {Q:Value→Shared→Prop}
    (k:∀ u,(∀ φ h,VR φ h v u)→Q u σ.s):wpAny (model C.prog C.w) A (eval (.Name x pos) env) Q NE σ.s:=by
  obtain ⟨mg,mb,h1,h2,h3⟩:=St.glob
  obtain ⟨u,hu,q⟩:=h3 x _ hg
  exact name_glob I E hd hn h1 h2 (.inl hu) (k u q)
theorem load_ok {n:Str} {i:Nat} (hi:Γ.sl.lookup n=some i):Sim C ex (evr Γ env ρ) (wp C A (loadName env n)) (bnd (lft ρ[i]?) lft) vr:=by
  refine fun σ I E=>okR_bnd (okR_lft (ok_of fun o e=>okR_lft (ok_of fun v e' Q k=>?_)))
  subst e'
  have E:EnvR C Γ env ρ σ.φ σ.h:=E
  obtain ⟨m',hm,hl⟩:=E.loc
  rcases hl n i hi with ⟨a,b⟩ | ⟨c,vo,a,hc,hcell,b⟩
  · obtain ⟨u,hx,q⟩:=b _ e
    exact wpAny_loadName_local E.S.kind a hm hx (k _ _ (Aft.here I q))
  · obtain ⟨u,hx,q⟩:=b _ e
    subst hx
    exact wpAny_loadName_cell E.S.kind a hc hcell (k _ _ (Aft.here I q))
theorem sx_Name {n:Str} (St:Stat C) (hd:(n == ("__debug__":Str))=false):SXe C d (m + 1) Γ env A ρ (.Name n pos) (trName C.W Γ n):=by
  unfold trName
  rcases hi:Γ.sl.lookup n with _ | i
  · refine glob_of (K:=fun g=>SXe C d (m + 1) Γ env A ρ (.Name n pos) (match g with | some (.val v)=>.const v | _=>.bad)) SXe.bad fun g hn hg=>?_
    rcases g with v | _ | _ | _<;>try exact SXe.bad
    exact fun σ I E Q k=>name_val (K:=fun _=>True) St I E hd hn hg fun u q=>k _ _ (Aft.here I (q _ _))
  · exact Sim.rule (fun Q s h=>wpAny_Name h hd) (load_ok hi)
theorem sx_BinOp {l r:PySem.Expr} {op:Operator} (ih:SX C d m t) (c:Cf d A):SXe C d (m + 1) Γ env A ρ (.BinOp l op r pos) (.bin op (t Γ l) (t Γ r)) :=
  Sim.rule (fun Q s=>wpAny_BinOp) (Sim.bind (ih Γ env A ρ l c) fun v a=>Sim.bind (ih Γ env A ρ r c).l fun v' a'=>Sim.wk bin_ok fun σ p=>⟨p.1.2,p.2⟩)
theorem not_ok {v:V} {a:Value}:Sim C ex (vr v a) (wp C A (unaryOp .Not a)) (bnd (truR v) fun b=>pur (.bool !b)) vr:=by
  refine Sim.rule (fun Q s=>not_of) (Sim.bind truth_ok fun b a=>?_)
  exact Sim.pure fun σ p=>by rw [show a=b from p.2]; exact vr_bool
theorem sx_Not {y:PySem.Expr} (ih:SX C d m t) (c:Cf d A):SXe C d (m + 1) Γ env A ρ (.UnaryOp .Not y pos) (.not (t Γ y)) :=
  Sim.rule (fun Q s=>UnaryOp_) (Sim.bind (ih Γ env A ρ y c) fun v a=>not_ok.r)
theorem neg_ok {v:V} {a:Value}:Sim C ex (vr v a) (wp C A (unaryOp .USub a)) (intR (fun i=>pur (.int (-i))) v) vr:=by
  intro σ I q
  rcases v with _ | _ | i | _ | _ | _ | _<;>try trivial
  have q:VR σ.φ σ.h (.int i) a:=q
  refine VR.int_e q ?_
  exact fun t Q k=>PyProof.Rows.neg_int (k _ _ (Aft.tk _ I vr_int))
theorem sx_Neg {y:PySem.Expr} (ih:SX C d m t) (c:Cf d A):SXe C d (m + 1) Γ env A ρ (.UnaryOp .USub y pos) (.neg (t Γ y)) :=
  Sim.rule (fun Q s=>UnaryOp_) (Sim.bind (ih Γ env A ρ y c) fun v a=>neg_ok.r)
theorem sx_Compare {l r:PySem.Expr} {op:CmpOp} (ih:SX C d m t) (c:Cf d A) (hm:behindInMarks op r=false):SXe C d (m + 1) Γ env A ρ (.Compare l [op] [r] pos) (.cmp op (t Γ l) (t Γ r)) :=
  Sim.rule (fun Q s h=>wpAny_Compare1 h hm) (Sim.bind (ih Γ env A ρ l c) fun v a=>Sim.bind (ih Γ env A ρ r c).l fun v' a'=>Sim.wk (cmp_ok c.room) fun σ p=>⟨p.1.2,p.2⟩)
theorem sx_bops {op:BoolOp} (ih:SX C d m t) (c:Cf d A):∀ es:List PySem.Expr,Sim C no (evr Γ env ρ) (wp C A (eval (.BoolOp op es pos) env)) (bops (runX C d m) (op == .And) ρ (es.map (t Γ))) vr:=by
  intro es
  induction es with
  | nil=>exact Sim.non
  | cons x es IH =>
    rcases es with _ | ⟨y,es⟩
    · exact Sim.rule (fun Q s=>BoolOp_one) (ih Γ env A ρ x c)
    · refine Sim.eq (f':=bnd (runX C d m (t Γ x) ρ) fun v=>bnd (truR v) fun b=>cond (b == (op == .And)) (bops (runX C d m) (op == .And) ρ ((y::es).map (t Γ))) (pur v)) ?_ rfl
      rcases op with _ | _
      · refine Sim.rule (fun Q s=>BoolOp_and) (Sim.bind (ih Γ env A ρ x c) fun v a=>?_)
        refine Sim.bind truth_ok.r (Sim.bool IH.l ?_)
        exact Sim.pure fun σ p=>p.2
      · refine Sim.rule (fun Q s=>BoolOp_or) (Sim.bind (ih Γ env A ρ x c) fun v a=>?_)
        refine Sim.bind truth_ok.r (Sim.bool ?_ IH.l)
        exact Sim.pure fun σ p=>p.2
end
end Mine
end
section
open PySem PySem.W PySem.Calls PyProof.Rows
namespace Mine
theorem plainArgs_iff {es:List PySem.Expr} (h:plainArgs es=true):es.all notStar=true∧es.length < 20:=⟨(and_tt h).1,of_decide_eq_true (and_tt h).2⟩
noncomputable def argsOf (env:Env) (es:List PySem.Expr):List (Bool×Sem Value):=es.map fun e=>(false,eval e env)
theorem starEach_plain {env:Env} {es:List PySem.Expr}:es.all notStar=true→starEach es env=argsOf env es:=by
  induction es with
  | nil=>exact fun _=>rfl
  | cons e es ih =>
    intro h
    have ⟨h1,h2⟩:=and_tt h
    have ih:=ih h2
    cases e<;>first | exact congrArg _ ih | exact nB h1
theorem backTo_plain {pos:Pos} {env:Env} {es:List PySem.Expr}:backTo pos (argsOf env es)=argsOf env es:=by
  unfold backTo argsOf
  rw [List.map_map]
  rfl
theorem args_plain {pos:Pos} {env:Env} {es:List PySem.Expr} (h:plainArgs es=true):backTo pos (starEach es env)=argsOf env es:=by
  rw [starEach_plain (plainArgs_iff h).1,backTo_plain]
theorem any_plain {env:Env} {es:List PySem.Expr}:(argsOf env es).any (·.1)=false:=by
  unfold argsOf
  rw [List.any_map]; simp
section
variable {C:Ctx} {d m:Nat} {A:Around} {ex:Addr→Prop} {Γ:Cx} {env:Env} {ρ:En} {t:Cx→PySem.Expr→X} {es:List PySem.Expr} {pos:Pos} {o:PySem.Expr} {u v:V} {a b:Value}
theorem evs_len {f:X→En→Rn V} {xs:List X}:∀ {H:Hp},okR (evs f ρ xs H) fun vs _=>vs.length=xs.length:=by
  induction xs with
  | nil=>exact rfl
  | cons x xs ih=>exact okR_bnd (okR_of fun v H₁ _=>okR_bnd (okR_mono ih fun vs _ e=>congrArg (· + 1) e))
theorem spliced_any (ih:SX C d m t) (c:Cf d A):Sim C no (evr Γ env ρ) (wp C A (spliced (argsOf env es))) (evs (runX C d m) ρ (es.map (t Γ))) vrs:=by
  induction es with
  | nil=>exact Sim.rule (fun Q s=>spliced_nil) (Sim.pure fun σ p=>.nil)
  | cons e es IH =>
    refine Sim.rule (fun Q s=>spliced_cons) (Sim.bind (ih Γ env A ρ e c) fun v a=>?_)
    refine Sim.bind IH.l fun vs us=>?_
    exact Sim.pure fun σ p=>.cons p.1.2 p.2
theorem spliced_ok (ih:SX C d m t) (c:Cf d A) (h:plainArgs es=true):Sim C no (evr Γ env ρ) (wp C A (spliced (argsOf env es))) (evs (runX C d m) ρ (es.map (t Γ))) fun vs us=>(vrs vs us).and (pr (vs.length≤2 * lim)):=fun σ I p =>
  okR_mono (okR_of fun vs H' e=>And.intro (okR_get e (spliced_any (es:=es) ih c σ I p)) (okR_get (K:=fun (vs:List V) _=>vs.length≤2 * lim) e (okR_mono evs_len fun vs _ e=>by
    rw [e,List.length_map,lim_eq]; have:=(plainArgs_iff h).2; lia))) fun vs H' q Q k=>q.1 Q fun us s' ⟨φ,l,z⟩=>k us s' ⟨φ,l,z,q.2⟩
theorem Sim.fact {α β:Type} {P:Mp C} {F:Prop} {w:Tr α} {f:Rn β} {R:β→α→Mp C} (x:F→Sim C ex P w f R):Sim C ex (P.and (pr F)) w f R:=fun σ I p=>x p.2 σ I p.1
theorem sx_Tuple {q:Nat} (ih:SX C d m t) (c:Cf d A) (h:plainArgs es=true):SXe C d (m + 1) Γ env A ρ (.Tuple es q pos) (.tup (es.map (t Γ))):=by
  refine Sim.rule (fun Q s=>Tuple_) ?_
  rw [args_plain h]
  exact Sim.bind (spliced_ok ih c h) fun vs us=>Sim.r (Sim.fact newTuple_ok)
theorem sx_List (ih:SX C d m t) (c:Cf d A) (h:plainArgs es=true):SXe C d (m + 1) Γ env A ρ (.List es pos) (.list (es.map (t Γ))):=by
  refine Sim.rule (fun Q s=>List_) ?_
  rw [args_plain h]
  exact Sim.bind (spliced_ok ih c h) fun vs us=>Sim.r (Sim.fact newList_ok)
theorem evalArgs_ok {f:Value} {args:List (Bool×Sem Value)} {Q:Args→Shared→Prop} {s:Shared} (hp:args.any (·.1)=false) (h:wpAny (model C.prog C.w) A (spliced args) (fun vs s'=>Q ⟨vs,[]⟩ s') NE s) :
    wpAny (model C.prog C.w) A (evalArgs f true args []) Q NE s:=by
  rcases args with _ | ⟨⟨b,t⟩,r⟩
  · unfold evalArgs
    show wpAny _ A (spliced [] >>= _) Q NE s
    refine wpAny_bind (wpAny_mono h (fun vs s' h'=>?_) fun _ _ x=>x)
    exact wpAny_holding (wpAny_bind (wpAny_pure (wpAny_bind (wpAny_pure (wpAny_pure h')))))
  · rcases b with _ | _
    · exact evalArgs_plain h
    · exact nT hp
set_option tactic.hygienic true in
theorem base_plain {a:Str} {whole:Sem Value} (h:isCall0 o=false):attributeBase o a env whole=whole:=by
  cases o<;>try exact rfl
  rename_i f args kws p
  cases f<;>try exact rfl
  rcases args with _ | ⟨x,xs⟩
  · rcases kws with _ | ⟨y,ys⟩
    · exact nT h
    · exact rfl
  · exact rfl
theorem sx_Attribute {n:Str} {f:Nat} (St:Stat C) (ih:SX C d m t) (c:Cf d A) (hc:isCall0 o=false) (hf:C.W.attr n=some f):SXe C d (m + 1) Γ env A ρ (.Attribute o n pos) (.attr (t Γ o) f):=by
  refine Sim.rule (fun Q s h=>Attribute_any_ h ?_) (Sim.bind (ih Γ env A ρ o c) fun v a=>(attr_ok St hf).r)
  show (do
    let o' ← attributeBase o n env (eval o env)
    standAt pos.atName
    let r ← holding [o'] (getAttr o' n true)
    letTemporaryGo o o' r
    pure r)=_
  rw [base_plain hc]
noncomputable def TyIt (σ:Wo) (a:Value):Prop:=∃ T id,σ.s.TypeIs a T∧typeLookup (.type T) "__getitem__"=pure (some (.builtin id))
theorem itemsT {σ:Wo} (I:Inv C σ) (q:VR σ.φ σ.h u a):ok (subV u v σ.H) fun _=>TyIt σ a:=by
  rcases u with _ | _ | _ | _ | xs | xs | r<;>try trivial
  · obtain ⟨l,ws,n,ho,_,_⟩:=q
    exact ok_of fun _ _=>⟨"tuple",_,⟨_,ho,rfl⟩,slot_tuple_getitem.lookup⟩
  · obtain ⟨l,ws,n,ho,_,_⟩:=q
    exact ok_of fun _ _=>⟨"list",_,ho.typeIs,slot_list_getitem.lookup⟩
  · refine ok_els (ok_bind (ok_listAt fun xs e=>I.list (K:=fun a=>ok _ fun _=>TyIt σ a) e q fun p ws n x=>ok_of fun _ _=>⟨"list",_,x.lst.isList.typeIs,slot_list_getitem.lookup⟩)) (ok_els (ok_bind (ok_dictAt fun es e=>I.dict (K:=fun a=>ok _ fun _=>TyIt σ a) e q fun p hp x=>ok_of fun _ _=>?_)) (ok_bind (ok_mono (I.td (K:=fun es a=>ok ((keyT v).bind fun k=>tget k es) fun _=>TyIt σ a) q fun es p hp x=>ok_of fun _ _=>?_) fun _ z=>z)))
    · obtain ⟨ka,hd,_⟩:=x
      exact ⟨"dict",_,hd.typeIs,slot_dict_getitem.lookup⟩
    · obtain ⟨xs,hd,_⟩:=x
      exact ⟨"dict",_,hd.typeIs,slot_dict_getitem.lookup⟩
theorem not_slice {slice:PySem.Expr} {o i:Value} (h:isSliceE slice=false):subscripted slice false o i=operate [o,i] (getItem o i):=by
  cases slice<;>first | rfl | exact nT h
theorem sx_Sub {i:PySem.Expr} (hsl:isSliceE i=false) (ih:SX C d m t) (c:Cf d A):SXe C d (m + 1) Γ env A ρ (.Subscript o i pos) (.sub (t Γ o) (t Γ i)):=by
  refine Sim.rule (fun Q s=>Subscript_) ?_
  refine Sim.bind (g:=fun u=>bnd (runX C d m (t Γ i) ρ) fun k H=>lft (subV u k H) H) (ih Γ env A ρ o c) fun u a=>?_
  refine Sim.bind (ih Γ env A ρ i c).l fun v b=>?_
  exact Sim.ruleP (fun σ I p=>okR_lft (ok_mono (itemsT I p.1.2) fun _ ⟨T,id,hT,hl⟩ Q g=>tail_any hT hl g (not_slice hsl))) (Sim.wk (sub_ok c.room) fun σ p=>⟨p.1.2,p.2⟩)
end
end Mine
end
section
open PySem PySem.W PySem.Calls PyProof.Rows
namespace Mine
theorem bounds_nat (lo hi:Option Nat) (m:Nat):sliceBounds (lo.map fun k=>(k:Int)) (hi.map fun k=>(k:Int)) none m=(((min (lo.getD 0) m:Nat):Int),(((match hi with | some h=>min h m | none=>m):Nat):Int),1):=by
  unfold sliceBounds
  rcases lo with _ | l<;>rcases hi with _ | h<;>(dsimp only [Option.map,Option.getD]; refine Prod.ext ?_ (Prod.ext ?_ rfl))<;>simp<;>lia
theorem pick_take (l:List Value) (b:Nat):(List.range b).filterMap (fun (k:Nat)=>l[((0:Int) + (k:Int) * 1).toNat]?)=l.take b:=by
  have e:(fun (k:Nat)=>l[((0:Int) + (k:Int) * 1).toNat]?)=fun k=>l[k]?:=by
    funext k
    rw [Int.mul_one,Int.zero_add,Int.toNat_natCast]
  rw [e]
  induction b with
  | zero=>rfl
  | succ b ih=>rw [List.range_succ,List.filterMap_append,ih,List.take_add_one]; rcases hx:l[b]? with _ | x<;>simp [hx]
section
variable {C:Ctx} {d m:Nat} {A:Around} {ex:Addr→Prop} {Γ:Cx} {env:Env} {ρ:En} {t:Cx→PySem.Expr→X} {pos p:Pos} {o:PySem.Expr} {u v:V} {a b:Value} {lo hi:Option PySem.Expr} {s:Shared}
theorem slice_app {A:Around} {sl:Addr} {n b:Nat} {u:Tok} (hs:s.heap.IsSliceOf sl .none (.int b u) .none):wpAny (model C.prog C.w) A (Builtin.Slice.sliceApplied (.ref sl) (pure (n:Int))) (fun r s'=>r=(0,1,min b n)∧s'=s) (fun _ _=>False) s:=by
  obtain ⟨os,hos,hcs,hds⟩:=id hs
  unfold Builtin.Slice.sliceApplied Builtin.Slice.sliceFields
  refine wpAny_bind (wpAny_bind (wpAny_field hos hds (x:=.none) rfl (wpAny_bind (wpAny_field hos hds (x:=.int b u) rfl (wpAny_bind (wpAny_field hos hds (x:=.none) rfl (wpAny_pure ?_)))))))
  refine wpAny_bind (slicePart_none ?_)
  show wpAny _ _ (if ((1:Int) == 0)=true then _ else _) _ _ s
  rw [if_neg (by decide)]
  refine wpAny_bind (slicePart_none (wpAny_bind (slicePart_int (wpAny_bind (wpAny_pure ?_)))))
  have ea:Builtin.Slice.sliceAdjust none (some (b:Int)) 1 (n:Int)=(0,((min b n:Nat):Int)):=by
    unfold Builtin.Slice.sliceAdjust
    have h1:¬ ((1:Int) < 0):=by decide
    have h2:¬ ((b:Int) < 0):=by simp
    simp only [h1,h2,if_false]
    congr 1
    omega
  have ep:Builtin.Slice.slicePlaces 0 ((min b n:Nat):Int) 1=min b n:=by
    unfold Builtin.Slice.slicePlaces
    have h1:(1:Int) > 0:=by decide
    simp only [h1,if_true,Int.ediv_one]
    split<;>lia
  show wpAny _ _ (match Builtin.Slice.sliceAdjust none (some (b:Int)) 1 (n:Int) with | (lo,hi)=>pure (lo,(1:Int),Builtin.Slice.slicePlaces lo hi 1)) _ _ s
  rw [ea]
  show wpAny _ _ (pure ((0:Int),(1:Int),Builtin.Slice.slicePlaces 0 ((min b n:Nat):Int) 1)) _ _ s
  rw [ep]
  exact wpAny_pure ⟨rfl,rfl⟩
theorem tuple_upto {t sl:Addr} {ws:Array Value} {b:Nat} {u:Tok} {Q:Value→Shared→Prop} (ht:IsTup s.heap t ws) (hs:s.heap.IsSliceOf sl .none (.int b u) .none) (hz:ws.size≤sizeLine)
    (h1:ws.size≤b→Q (.ref t) s) (h2:b < ws.size→Q (.ref s.heap.objs.size) { s with heap:=s.heap.push { cls:=.type "tuple",data:=.seq (ws.toList.take b).toArray } }) :
    wpAny (model C.prog C.w) A (getItem (.ref t) (.ref sl)) Q NE s:=by
  have hTs:s.TypeIs (.ref sl) "slice":=by obtain ⟨os,hos,hcs,hds⟩:=id hs; exact ⟨os,hos,hcs⟩
  unfold getItem
  try with_reducible refine wpAny_holding ?_
  first | refine wpAny_bind (wpAny_pure ?_) | skip
  refine wpAny_bind (wpAny_sequenceKey ht.typeIs (by decide) ?_)
  refine wpAny_bind (wpAny_callSpecial?_slot (name:=Str.ofString "__getitem__") ht.typeIs slot_tuple_getitem
    (wpAny_call_entry slot_tuple_getitem ht.typeIs entry_tuple_getitem ?_ (args_tuple_getitem _ _)))
  show wpAny _ _ (Builtin.Tuple.tupleItemsOf (.ref t) >>= _) _ _ s
  refine wpAny_bind (tupleItemsOf_ ht (wpAny_bind (wpAny_typeOf hTs ?_)))
  rw [if_pos (by decide)]
  refine wpAny_bind (wpAny_mono (slice_app hs) (fun r s' hr=>?_) fun _ _ x=>x.elim)
  obtain ⟨rfl,rfl⟩:=hr
  by_cases hb:ws.size≤b
  · rw [Nat.min_eq_right hb]
    show wpAny _ _ (if ((0:Int) == 0 && (1:Int) == 1 && ws.size == ws.size)=true then _ else _) _ _ _
    rw [if_pos (by simp)]
    unfold Builtin.Tuple.tupleIsExact
    refine wpAny_bind (wpAny_bind (wpAny_typeOf ht.typeIs (wpAny_pure ?_)))
    show wpAny _ _ (if ((Value.type "tuple" == Value.type "tuple")=true) then _ else _) _ _ _
    rw [if_pos (by decide)]
    exact wpAny_bind (wpAny_rule (wpAny_pure ⟨_,rfl,wpAny_pure (h1 hb)⟩))
  · have hb':=Nat.lt_of_not_le hb
    rw [Nat.min_eq_left (Nat.le_of_lt hb')]
    show wpAny _ _ (if ((0:Int) == 0 && (1:Int) == 1 && b == ws.size)=true then _ else _) _ _ _
    rw [if_neg (by rw [beq_eq_false_iff_ne.mpr (Nat.ne_of_lt hb')]; decide)]
    have ep:((List.range b).filterMap fun (k:Nat)=>ws[((0:Int) + (k:Int) * 1).toNat]?).toArray=(ws.toList.take b).toArray:=by
      rw [← pick_take]; simp only [Array.getElem?_toList]
    rw [ep]
    exact wpAny_bind (m:=Builtin.Tuple.tupleExact _) (wpAny_newObj_type (wpAny_pure ⟨_,rfl,wpAny_pure (h2 hb')⟩) (by show (ws.toList.take b).toArray.size≤sizeLine; rw [List.size_toArray,List.length_take]; exact Nat.le_trans (Nat.min_le_right _ _) hz))
noncomputable def ovr (o:Option V) (u:Value):Mp C:=match o with
  | none=>pr (u=.none)
  | some v=>vr v u
theorem opt_ok {x:Option PySem.Expr} (ih:SX C d m t) (c:Cf d A):Sim C no (evr Γ env ρ) (wp C A (valueOrNone (evalOpt x env))) (evo (runX C d m) ρ (x.map (t Γ))) ovr:=by
  rcases x with _ | y
  · exact fun σ I p Q k=>wpAny_pure (k _ _ (Aft.here I rfl))
  · intro σ I p
    show okR (bnd (runX C d m (t Γ y) ρ) (fun v=>pur (some v)) σ.H) _
    refine okR_bnd (okR_mono (ih Γ env A ρ y c σ I p) fun v H z=>?_)
    exact z
theorem part_ok {o:Option V} {σ:Wo} (q:(ovr (C:=C) o a).p σ):ok (natOf o) fun m=>IsPart a (m.map fun k=>(k:Int)):=by
  rcases o with _ | x
  · exact (show a=.none from q)▸IsPart.none
  · exact ok_bind (ok_int (K:=fun k a=>ok (cond (decide (0≤k) && decide (k≤1000000)) (some (some k.toNat)) none) fun m=>IsPart a (m.map fun k=>(k:Int))) (show VR σ.φ σ.h x a from q) fun i t _=>ok_cond fun h=>by
      show IsPart (.int i t) (some ((i.toNat:Nat):Int))
      rw [Int.toNat_of_nonneg (of_decide_eq_true (and_tt h).1)]
      exact .int i t)
theorem eval_Slice {Q:Value→Shared→Prop} (h:wpAny (model C.prog C.w) A (valueOrNone (evalOpt lo env)) (fun l s₁=>wpAny (model C.prog C.w) A (valueOrNone (evalOpt hi env)) (fun u s₂ =>
      Q (.ref s₂.heap.objs.size) { s₂ with heap:=s₂.heap.push { cls:=.type "slice",data:=.fields #[l,u,.none] } }) NE s₁) NE s):wpAny (model C.prog C.w) A (eval (.Slice lo hi none pos) env) Q NE s:=by
  show wpAny _ _ (do
    let l ← valueOrNone (evalOpt lo env)
    let u ← holding [l] (valueOrNone (evalOpt hi env))
    let s ← holding [l,u] (valueOrNone (evalOpt none env))
    newFields "slice" [l,u,s]) Q NE s
  exact wpAny_bind (wpAny_mono h (fun l s₁ h₁=>wpAny_bind (wpAny_holding (wpAny_mono h₁ (fun u s₂ h₂=>wpAny_bind (wpAny_holding (wpAny_pure (wpAny_newObj_type h₂)))) fun _ _ x=>x))) fun _ _ x=>x)
noncomputable abbrev slObj (a b:Value):Obj:={ cls:=.type "slice",data:=.fields #[a,b,.none] }
theorem cut_pick {φ:Phi} {h:Heap} {ws:Array Value} {vs:List V} (q:All2 (VR φ h) vs ws.toList) (lo hi:Option Nat):All2 (VR φ h) (cut vs lo hi) (slicePick ws (lo.map fun k=>(k:Int)) (hi.map fun k=>(k:Int)) none).toList:=by
  rw [kmk_pick_nat ws (bounds_nat lo hi ws.size),arr_size q]
  exact (q.drop _).take _
theorem cut_le {vs:List V} {lo hi:Option Nat} {n:Nat} (h:vs.length≤n):(cut vs lo hi).length≤n:=by
  unfold cut
  rw [List.length_take,List.length_drop]; omega
theorem cut_ok {σ σ':Wo} {a2 a3:Value} {l:Addr} {ws:Array Value} {vs:List V} {m1 m2:Option Nat} {Q:Value→Shared→Prop} (L:Le C ex σ σ') (hs:σ'.h.IsSliceOf σ.h.objs.size a2 a3 .none) (P1:IsPart a2 (m1.map fun k=>(k:Int))) (P2:IsPart a3 (m2.map fun k=>(k:Int)))
    (hl:σ'.h.IsList l ws) (q:All2 (VR σ'.φ σ'.h) vs ws.toList) (lv:vs.length≤2 * lim) (k:∀ b s',Aft C ex σ (σ'.H++[.list (cut vs m1 m2)]) (vr (C:=C) (.ref σ'.H.length) b).p s'→Q b s') :
    wpAny (model C.prog C.w) A (subscriptTail o (.Slice lo hi none p) (.ref l) (.ref σ.h.objs.size)) Q NE σ'.s :=
  tail_any (ops:=[.ref σ.h.objs.size,.ref l]) hl.typeIs slot_list_getitem.lookup (wpAny_getItem_list_slice hl hs P1 P2 .none (by simp) (k _ _ (Aft.from L (mkList_at (tk:=σ'.s.toks) (n:=0) L.inv push_keeps L.inv.fresh (Heap.get?_push_size _ rfl) (cut_pick q m1 m2) (cut_le lv))))
    (by rw [arr_size q]; exact size_ok lv)) rfl
theorem slice_ok {l h:Option V} {a2 a3:Value}:Sim C ex (((vr u a).and (ovr l a2)).and (ovr h a3)) (fun Q s=>wpAny (model C.prog C.w) A (subscriptTail o (.Slice lo hi none p) a (.ref s.heap.objs.size)) Q NE { s with heap:=s.heap.push (slObj a2 a3) }) (sliceV u l h) vr:=by
  intro σ I ⟨⟨qa,q1⟩,q2⟩
  refine okR_bind (ok_mono (part_ok q1) fun m1 P1=>okR_bind (ok_mono (part_ok q2) fun m2 P2=>?_))
  have L:Le C ex σ (σ.at (σ.h.push (slObj a2 a3)) σ.s.toks):=Le.grow I push_keeps
  have L0:Le C no σ (σ.at (σ.h.push (slObj a2 a3)) σ.s.toks):=Le.grow I push_keeps
  have hs:(σ.h.push (slObj a2 a3)).IsSliceOf σ.h.objs.size a2 a3 .none:=Heap.IsSliceOf.new ..
  have qa':=VR.le (σ':=σ.at (σ.h.push (slObj a2 a3)) σ.s.toks) qa L0
  rcases u with _ | _ | _ | _ | vs | vs | r<;>try trivial
  · rcases m1 with _ | _<;>try trivial
    refine okR_bind (ok_of fun b hb=>okR_cond fun hl=>?_)
    subst hb
    have hl:=of_decide_eq_true hl
    have q0:=qa'
    obtain ⟨t,ws,n,ho,nt,q⟩:=qa'
    have lw:=arr_size q.all
    intro Q k
    refine tail_any (T:="tuple") (ops:=[.ref σ.h.objs.size,.ref t]) ⟨_,ho,rfl⟩ slot_tuple_getitem.lookup ?_ rfl
    cases P1
    cases P2
    refine tuple_upto ⟨_,ho,rfl,n,rfl⟩ hs (by rw [lw]; exact size_ok (Nat.le_trans hl (by decide))) (fun hb=>k _ _ (Aft.at L ?_)) (fun hb=>?_)
    · rw [List.take_of_length_le (lw▸hb)]; exact q0
    · have ⟨L2,z⟩:=SqAt.new (ex:=ex) (tk:=σ.s.toks) (t:="tuple") (ws:=(ws.toList.take b).toArray) (vs:=vs.take b) (n:=0) L.inv rfl (by simpa using q.all.take b)
      exact k _ _ (Aft.at (L.trans L2) z)
  · refine okR_cond fun hl=>?_
    obtain ⟨t,ws,n,ho,nt,q⟩:=qa'
    exact fun Q k=>cut_ok L hs P1 P2 ho q.all (Nat.le_trans (of_decide_eq_true hl) (by decide)) k
  · refine okR_map (ok_listAt fun vs e=>?_)
    refine L.inv.list e qa' fun pp ws n x=>?_
    exact fun Q k=>cut_ok L hs P1 P2 x.lst.isList x.all x.le k
theorem sx_Slice (ih:SX C d m t) (c:Cf d A):SXe C d (m + 1) Γ env A ρ (.Subscript o (.Slice lo hi none p) pos) (.slice (t Γ o) (lo.map (t Γ)) (hi.map (t Γ))):=by
  refine Sim.rule (fun Q s=>Subscript_) ?_
  refine Sim.bind (g:=fun u=>bnd (evo (runX C d m) ρ (lo.map (t Γ))) fun l=>bnd (evo (runX C d m) ρ (hi.map (t Γ))) fun h=>sliceV u l h) (ih Γ env A ρ o c) fun u a=>?_
  refine Sim.rule (fun Q s=>eval_Slice) ?_
  refine Sim.bind (opt_ok ih c).l fun l a2=>?_
  refine Sim.bind (opt_ok ih c).l.l fun h a3=>?_
  exact Sim.wk slice_ok fun σ p=>⟨⟨p.1.1.2,p.1.2⟩,p.2⟩
end
end Mine
end
section
open PySem PySem.W PySem.Calls PyProof.Rows
namespace Mine
section
variable {C:Ctx} {d m:Nat} {A:Around} {ex:Addr→Prop} {Γ:Cx} {env:Env} {ρ:En} {t:Cx→PySem.Expr→X} {es:List PySem.Expr} {pos p:Pos} {u v:V} {a b:Value} {i:Nat} {fa:Addr} {vs:List V} {us:List Value} {P:Mp C}
noncomputable def Keeps (C:Ctx) (f:Value):Prop:=∀ h,C.K.In h→∃ q,(q=Keeper.frame∨q=Keeper.machine∨q=Keeper.boundFrame)∧Looks (model C.prog C.w) h (keeperOf f) q
theorem keeps_bi {s:String}:Keeps C (.builtin s):=fun hh _=>⟨.machine,.inr (.inl rfl),Looks.of_pure rfl⟩
theorem keeps_fn (St:Stat C) (hi:C.fa[i]?=some fa):Keeps C (.ref fa):=by
  obtain ⟨fi,_,_,_,_,_,_,_,_,_,_,_,_,_,_,_,hK,_⟩:=St.fns i fa hi
  exact fun h X=>keeps_K (by unfold keepIn; dsimp only; rw [hK]) h X
theorem keeps_cls {ci:CI} (CO:ClsOk C ci fa):Keeps C (.ref fa):=by
  have hm:=CO.makes
  refine fun h X=>keeps_K ?_ h X
  unfold makesIn at hm
  rcases hK:C.K.lookup fa with _ | ⟨oc,od,x,sl⟩<;>rw [hK] at hm
  · exact nB hm
  · cases x<;>first | exact nB hm | skip
    unfold keepIn
    dsimp only
    rw [hK]
    exact (and_tt (and_tt hm).1).2
theorem Sim.kin {α β:Type} {P:Mp C} {w:Tr α} {f:Rn β} {R:β→α→Mp C} (St:Stat C) (x:Sim C ex P w f R):Sim C ex P (fun Q s=>C.K.In s.heap∧w Q s) f R:=fun σ I p=>okR_mono (x σ I p) fun _ _ z Q k=>⟨I.kin St,z Q k⟩
theorem call_gen {β:Type} {f:Value} {first:List Value} {G:List V→Rn β} {δ:Type} {R:β→δ→Mp C} {τ:(δ→Shared→Prop)→Value→Shared→Prop} (St:Stat C) (hk:Keeps C f) (ih:SX C d m t) (c:Cf d A) (h:plainArgs es=true) (hP:∀ σ,P.p σ→(evr (C:=C) Γ env ρ).p σ)
    (x:∀ vs us,Sim C ex (P.and (vrs vs us)) (fun Q s=>wpAny (model C.prog C.w) A (call f (first++us) []) (τ Q) NE s) (G vs) R):Sim C ex P (fun Q s=>wpAny (model C.prog C.w) A (callWith pos f first (backTo pos (starEach es env)) []) (τ Q) NE s) (bnd (evs (runX C d m) ρ (es.map (t Γ))) G) R:=by
  rw [args_plain h]
  refine Sim.rule (fun Q s z=>callWith_of (P:=C.K.In) (by rw [any_plain]; rfl) hk (evalArgs_ok any_plain z)) ?_
  exact Sim.bind ((spliced_any ih c).wk hP) fun vs us=>Sim.kin St (x vs us)
theorem call_ok {f:Value} {first:List Value} {G:List V→Rn V} (St:Stat C) (hk:Keeps C f) (ih:SX C d m t) (c:Cf d A) (h:plainArgs es=true) (hP:∀ σ,P.p σ→(evr (C:=C) Γ env ρ).p σ)
    (x:∀ vs us,Sim C no (P.and (vrs vs us)) (wp C A (call f (first++us) [])) (G vs) vr):Sim C no P (wp C A (callWith pos f first (backTo pos (starEach es env)) [])) (bnd (evs (runX C d m) ρ (es.map (t Γ))) G) vr :=
  call_gen (τ:=fun Q=>Q) St hk ih c h hP x
theorem fn_ok (ihf:SF C d) (c:Cf d A) (hi:C.fa[i]?=some fa):Sim C no (vrs vs us) (wp C A (call (.ref fa) us [])) (evF C.T d i vs) vr :=
  Sim.rule (fun Q s h=>wpAny_call (codeAny_mono h fun r s' ⟨u,hr,hq⟩=>by subst hr; exact hq)) (ihf A i fa vs us c.call hi)
theorem new_ok {k:Nat} (St:Stat C) (ihf:SF C d) (c:Cf d A) (hc:C.ca[k]?=some fa):Sim C no (vrs vs us) (wp C A (call (.ref fa) us [])) (newR C.T (evF C.T d) k vs) vr:=by
  intro σ I q
  refine okR_bnd (okR_lft (ok_of fun ci hci=>?_))
  have CO:=St.clss k ci fa hci hc
  obtain ⟨fi,hfi,hin⟩:=CO.init
  have hk:∀ a x,σ.h.get? a=some x→((σ.h.push emptyDict).push (instObj fa σ.h.objs.size)).get? a=some x:=fun a x e=>push_keeps a x (push_keeps a x e)
  have n1:σ.h.get? (σ.h.objs.size + 1)=none:=Heap.get?_none_of_le (Nat.le_succ _)
  have g1:((σ.h.push emptyDict).push (instObj fa σ.h.objs.size)).get? (σ.h.objs.size + 1)=some (instObj fa σ.h.objs.size):=by
    have:=Heap.get?_push_size (σ.h.push emptyDict) (o:=instObj fa σ.h.objs.size) rfl
    rwa [Heap.size_push] at this
  have g2:((σ.h.push emptyDict).push (instObj fa σ.h.objs.size)).get? σ.h.objs.size=some (dictOf [] 0):=push_keeps _ _ (Heap.get?_push_size _ rfl)
  have L:Le C no σ ⟨σ.φ++[(σ.h.objs.size + 1,σ.h.objs.size)],Sh.on σ.s ((σ.h.push emptyDict).push (instObj fa σ.h.objs.size)) σ.s.toks,σ.H++[.inst k []]⟩ :=
    Le.push I hk (fun a d=>d.elim (fun e=>e▸⟨n1,Nat.lt_succ_of_lt I.fresh.lo⟩) fun e=>e▸I.fresh) fun _=>⟨ci,fa,[],0,hci,hc,g1,g2,Nat.succ_ne_self _,nofun,.nil,.nil⟩
  have qr:VR (σ.φ++[(σ.h.objs.size + 1,σ.h.objs.size)]) ((σ.h.push emptyDict).push (instObj fa σ.h.objs.size)) (.ref σ.H.length) (.ref (σ.h.objs.size + 1)) :=
    ⟨(σ.h.objs.size + 1,σ.h.objs.size),by rw [I.hr.obj.length]; exact List.getElem?_concat_length,rfl⟩
  refine okR_bnd (okR_mono (ihf (A.under (.builtin "type.__call__" ⟨.ref fa::us,[]⟩)) ci.init fi (.ref σ.H.length::vs) (.ref (σ.h.objs.size + 1)::us) c.make hfi _ L.inv (.cons qr ((vrs vs us).up L q))) fun u H₂ z=>?_)
  rcases u with _ | _ | _ | _ | _ | _ | _<;>try trivial
  intro Q k
  refine wpAny_call (make_core (makes_of (I.kin St) CO.makes) (looks_findIn (I.kin St) hin) (fun self=>bind_fn (I.kin St) self (beq_iff_eq.mp (St.isFn hfi))) (.inl rfl) ?_)
  refine codeAny_mono (z (fun a s'=>a=.none∧Q (.ref (σ.h.objs.size + 1)) s') fun a s' ⟨φ',l,q2⟩=>⟨q2,k _ _ (Aft.from L ⟨φ',l,qr.le l⟩)⟩) fun r s' ⟨u,hr,hu⟩=>?_
  subst hr
  exact hu
theorem toInts_are {φ:Phi} {h:Heap} (q:All2 (VR φ h) vs us):ok (toInts vs) fun is=>IntsAre us is:=by
  induction q with
  | nil=>exact .nil
  | @cons v u vs us a _ ih =>
    rcases v with _ | _ | _ | _ | _ | _ | _<;>try trivial
    exact ok_map (ok_mono ih fun is z=>VR.int_e (K:=fun u=>IntsAre (u::us) (_::is)) a fun t=>.cons _ _ z)
theorem toBools_are {φ:Phi} {h:Heap} (q:All2 (VR φ h) vs us):ok (toBools vs) fun bs=>LSm.BoolsAre us bs:=by
  induction q with
  | nil=>exact .nil
  | @cons v u vs us a _ ih =>
    rcases v with _ | _ | _ | _ | _ | _ | _<;>try trivial
    exact ok_map (ok_mono ih fun is z=>VR.bool_e (K:=fun u=>LSm.BoolsAre (u::us) (_::is)) a (.cons _ z))
theorem are_ints {φ:Phi} {h:Heap} {is:List Int} (q:IntsAre us is):All2 (VR φ h) (is.map .int) us:=by
  induction q with
  | nil=>exact .nil
  | cons n t _ ih=>exact .cons VR.int ih
theorem ins_perm (i:Int) (l:List Int):(ins i l).Perm (i::l):=by
  induction l with
  | nil=>exact .refl _
  | cons j js ih =>
    rw [ins_cons]
    by_cases h:i≤j
    · rw [if_pos h]
    · rw [if_neg h]; exact (ih.cons j).trans (.swap i j js)
theorem isort_perm (l:List Int):(isort l).Perm l:=by
  induction l with
  | nil=>exact .refl _
  | cons i l ih=>exact (ins_perm i _).trans (ih.cons i)
theorem ins_sorted (i:Int) {l:List Int} (h:l.Pairwise (·≤·)):(ins i l).Pairwise (·≤·):=by
  induction h with
  | nil=>exact .cons nofun .nil
  | @cons j js a b ih =>
    rw [ins_cons]
    by_cases hij:i≤j
    · rw [if_pos hij]
      exact .cons (fun x hx=>(List.mem_cons.mp hx).elim (fun e=>e▸hij) fun hx=>Int.le_trans hij (a x hx)) (.cons a b)
    · rw [if_neg hij]
      exact .cons (fun x hx=>(List.mem_cons.mp ((ins_perm i js).mem_iff.mp hx)).elim (fun e=>e▸Int.le_of_lt (Int.not_le.mp hij)) (a x)) ih
theorem isort_sorted (l:List Int):(isort l).Pairwise (·≤·):=by
  induction l with
  | nil=>exact .nil
  | cons i l ih=>exact ins_sorted i ih
theorem isort_eq {l ns:List Int} (p:ns.Perm l) (h:ns.Pairwise (·≤·)):ns=isort l :=
  (p.trans (isort_perm l).symm).eq_of_pairwise (fun a b _ _ x y=>Int.le_antisymm x y) h (isort_sorted l)
theorem len_ok:Sim C ex (vr v a) (wp C A (call (.builtin "len") [a] [])) (fun H=>bnd (lft (lenV H v)) (fun n=>pur (.int n)) H) vr:=by
  intro σ I q
  have q:VR σ.φ σ.h v a:=q
  refine okR_bnd (okR_lft ?_)
  rcases v with _ | _ | _ | _ | vs | vs | r<;>try trivial
  · obtain ⟨l,ws,n,ho,_,z⟩:=q
    refine ok_cond fun h=>?_
    have e:=arr_size z.all
    exact fun Q k=>P.len_tuple ho (by have:=lim63 (n:=ws.size) (e▸Nat.le_trans (of_decide_eq_true h) (by decide)); (first | lia | omega +splitDisjunctions)) (k _ _ (Aft.tk _ I (by rw [e]; exact vr_int)))
  · obtain ⟨l,ws,n,ho,_,z⟩:=q
    refine ok_cond fun h=>?_
    have e:=arr_size z.all
    exact fun Q k=>call_len_list ho (lim63 (e▸Nat.le_trans (of_decide_eq_true h) (by decide))) (k _ _ (Aft.tk _ I (by rw [e]; exact vr_int)))
  · refine ok_map (ok_listAt fun vs e=>?_)
    refine I.list e q fun p ws n x=>?_
    exact fun Q k=>call_len_list x.lst.isList (lim63 x.lt) (k _ _ (Aft.tk _ I (by rw [x.size]; exact vr_int)))
theorem any_ok (c:Cf d A):Sim C ex (vr v a) (wp C A (call (.builtin "any") [a] [])) (anyR v) vr:=by
  intro σ I q
  have q:VR σ.φ σ.h v a:=q
  refine okR_bnd (okR_lft ?_)
  rcases v with _ | _ | _ | _ | vs | vs | r<;>try trivial
  refine ok_listAt fun vs e=>?_
  refine I.list e q fun p ws n x=>?_
  refine okR_bnd (okR_lft (ok_mono (toBools_are x.all) fun bs hb Q k=>?_))
  have hl:=x.lst.isList
  have hlt:p.1 < σ.h.objs.size:=Heap.lt_size x.lst
  refine call_any_walk (wpAny_pyIter_list hl ?_)
  refine ⟨σ.h.objs.size,[σ.h.objs.size,p.1],[σ.h.objs.size],ws.size,_,_,fun i=>(bs[i]?).getD false,rfl,Walks.list (A:=A.in1) c.hd _ p.1 (Nat.ne_of_lt hlt) ws,
    ⟨⟨_,Heap.get?_push_size _ rfl,rfl,rfl⟩,hl.push _⟩,fun i v s' Q' E' hP hQ=>?_,fun h' tk hk=>?_⟩
  · obtain ⟨b,e,rfl⟩:=hb.get i v (Array.getElem?_toList.trans hP)
    have hQ:Q' ((bs[i]?).getD false) s':=hQ
    rw [e] at hQ
    exact wpAny_truthy_bool hQ
  · have e:((List.range ws.size).any fun i=>(bs[i]?).getD false)=bs.any id:=by
      have:ws.size=bs.length:=by simpa using hb.length
      rw [this]; exact LSm.range_any bs
    rw [e]
    exact k _ _ (Aft.at (Le.grow (tk:=tk) I (LSm.kept_iter hk)) vr_bool)
theorem sorted_ok:Sim C ex (vr v a) (wp C A (call (.builtin "sorted") [a] [])) (sortR v) vr:=by
  intro σ I q
  have q:VR σ.φ σ.h v a:=q
  refine okR_bnd (okR_lft ?_)
  rcases v with _ | _ | _ | _ | vs | vs | r<;>try trivial
  refine ok_listAt fun vs e=>?_
  refine I.list e q fun p ws n x=>?_
  refine okR_bnd (okR_lft (ok_mono (toInts_are x.all) fun is hi=>okR_grd fun h64 Q k=>?_))
  have h64:is.length < 64:=Nat.le_of_ble_eq_true h64
  have hl':σ.h.IsList p.1 ws.toList.toArray:=x.lst.isList
  refine sorted_ints hl' hi (hi.length▸h64) fun out ns' a1 a2 a3=>?_
  obtain ⟨ee,h1⟩:=sortedAll_at σ.h ws.toList out
  rw [isort_eq a2 a3] at a1
  exact k _ _ (mkList_at (tk:=σ.s.toks) I (fun a o e=>sortedAll_old e) ⟨Heap.get?_none_of_le (Nat.le_succ _),Nat.lt_succ_of_lt I.fresh.lo⟩ h1 (are_ints a1) (by rw [List.length_map,(isort_perm is).length_eq,lim_eq]; lia))
theorem min_ok (c:Cf d A):Sim C ex ((vr u a).and (vr v b)) (wp C A (call (.builtin "min") [a,b] [])) (intR (fun i=>intR (fun j=>pur (.int (if j < i then j else i))) v) u) vr:=by
  intro σ I q
  have qa:VR σ.φ σ.h u a:=q.1
  have qb:VR σ.φ σ.h v b:=q.2
  rcases u with _ | _ | i | _ | _ | _ | _<;>try trivial
  rcases v with _ | _ | j | _ | _ | _ | _<;>try trivial
  refine VR.int_e qa ?_
  intro t
  refine VR.int_e qb ?_
  intro t' Q k
  refine min_two_ints c.hd fun h' tk hk=>?_
  have L:=Le.grow (ex:=ex) (tk:=tk) I hk
  by_cases h:j < i
  · rw [if_pos h]; exact k _ _ (Aft.at L (by rw [if_pos h]; exact vr_int))
  · rw [if_neg h]; exact k _ _ (Aft.at L (by rw [if_neg h]; exact vr_int))
theorem call1_ok {f:Value} {x:PySem.Expr} {G:V→Rn V} (St:Stat C) (hk:Keeps C f) (ih:SX C d m t) (c:Cf d A) (h:plainArgs [x]=true) (k:∀ v a,Sim C no (vr v a) (wp C A (call f [a] [])) (G v) vr) :
    Sim C no (evr Γ env ρ) (wp C A (callWith pos f [] (backTo pos (starEach [x] env)) [])) (bnd (runX C d m (t Γ x) ρ) G) vr:=by
  rw [args_plain h]
  refine Sim.rule (w':=fun Q s=>wpAny (model C.prog C.w) A (eval x env) (fun a s₁=>C.K.In s₁.heap∧wp C A (call f [a] []) Q s₁) NE s) (fun Q s z=>callWith_of (P:=C.K.In) rfl hk (evalArgs_ok rfl (spliced_cons (wpAny_mono z (fun a s₁ h=>spliced_nil h) fun _ _ x=>x)))) ?_
  exact Sim.bind (ih Γ env A ρ x c) fun v a=>Sim.kin St (k v a).r
theorem call2_ok {f:Value} {x y:PySem.Expr} {G:V→V→Rn V} (St:Stat C) (hk:Keeps C f) (ih:SX C d m t) (c:Cf d A) (h:plainArgs [x,y]=true) (k:∀ v a u b,Sim C no ((vr v a).and (vr u b)) (wp C A (call f [a,b] [])) (G v u) vr) :
    Sim C no (evr Γ env ρ) (wp C A (callWith pos f [] (backTo pos (starEach [x,y] env)) [])) (bnd (runX C d m (t Γ x) ρ) fun v=>bnd (runX C d m (t Γ y) ρ) (G v)) vr:=by
  rw [args_plain h]
  refine Sim.rule (w':=fun Q s=>wpAny (model C.prog C.w) A (eval x env) (fun a s₁=>wpAny (model C.prog C.w) A (eval y env) (fun b s₂=>C.K.In s₂.heap∧wp C A (call f [a,b] []) Q s₂) NE s₁) NE s)
    (fun Q s z=>callWith_of (P:=C.K.In) rfl hk (evalArgs_ok rfl (spliced_cons (wpAny_mono z (fun a s₁ h=>spliced_cons (wpAny_mono h (fun b s₂ h=>spliced_nil h) fun _ _ x=>x)) fun _ _ x=>x)))) ?_
  exact Sim.bind (ih Γ env A ρ x c) fun v a=>Sim.bind (ih Γ env A ρ y c).l fun u b=>Sim.kin St (Sim.wk (k v a u b) fun σ p=>⟨p.1.2,p.2⟩)
theorem biV_of {b n:Nat} (h:(b == n)=true):biV b=biV n:=congrArg biV (eq_of_beq h)
theorem sx_bi {n:Str} {b:Nat} {mg mb:Str→Option Value} (St:Stat C) (ih:SX C d m t) (c:Cf d A) (h:plainArgs es=true) (hd:(n == ("__debug__":Str))=false) (hn:Γ.names.lookup n=some .globalImplicit)
    (h1:C.h₀.Ns mainGlobals mg) (h2:C.h₀.Ns builtinsNs mb) (hu:mg n=none∧mb n=some (biV b)):SXe C d (m + 1) Γ env A ρ (.Call (.Name n p) es [] pos) (trBi (t Γ) b es):=by
  have call:∀ {v:Value} {f:Rn V},biV b=v→Sim C no (evr Γ env ρ) (wp C A (callWith pos v [] (backTo pos (starEach es env)) [])) f vr→Sim C no (evr Γ env ρ) (wp C A (eval (.Call (.Name n p) es [] pos) env)) f vr:=fun e x =>
    Sim.ruleI (fun σ I E Q z=>wpAny_Call_Name_kw (name_glob I E hd hn h1 h2 (.inr hu) (e▸z))) x
  rcases es with _ | ⟨x,_ | ⟨y,_ | ⟨z,r⟩⟩⟩
  · exact SXe.bad
  · show SXe C d (m + 1) Γ env A ρ _ (cond (b == bLen) _ _)
    rcases e1:b == bLen with _ | _
    · show SXe C d (m + 1) Γ env A ρ _ (cond (b == bSorted) _ _)
      rcases e2:b == bSorted with _ | _
      · exact SXe.cond fun e3=>call (biV_of e3) (call1_ok St keeps_bi ih c h fun v a=>any_ok c)
      · exact call (biV_of e2) (call1_ok St keeps_bi ih c h fun v a=>sorted_ok)
    · exact call (biV_of e1) (call1_ok St keeps_bi ih c h fun v a=>len_ok)
  · exact SXe.cond fun e1=>call (biV_of e1) (call2_ok St keeps_bi ih c h fun v a u b=>min_ok c)
  · exact SXe.bad
theorem sx_CallName {n:Str} (St:Stat C) (ih:SX C d m t) (ihf:SF C d) (c:Cf d A):SXe C d (m + 1) Γ env A ρ (.Call (.Name n p) es [] pos) (trCall C.W Γ (t Γ) (.Name n p) es pos):=by
  refine SXe.cond fun hc=>?_
  have ⟨h,hd⟩:=and_tt hc
  have hd:(n == ("__debug__":Str))=false:=by rcases e:n == ("__debug__":Str) with _ | _; rfl; rw [e] at hd; exact nB hd
  rcases hs:Γ.sl.lookup n with _ | i
  · refine glob_of (K:=fun g=>SXe C d (m + 1) Γ env A ρ (.Call (.Name n p) es [] pos) (match g with | some g=>trNamed (t Γ) es g | none=>.bad)) SXe.bad fun g hn hg=>?_
    obtain ⟨mg,mb,h1,h2,h3⟩:=St.glob
    have hg:=h3 n g hg
    have call:∀ {v:Value} {f:Rn V},mg n=some v→Sim C no (evr Γ env ρ) (wp C A (callWith pos v [] (backTo pos (starEach es env)) [])) f vr→Sim C no (evr Γ env ρ) (wp C A (eval (.Call (.Name n p) es [] pos) env)) f vr:=fun e x =>
      Sim.ruleI (fun σ I E Q z=>wpAny_Call_Name_kw (name_glob I E hd hn h1 h2 (.inl e) z)) x
    rcases g with v | i | k | b
    · exact SXe.bad
    · obtain ⟨fa,hi,hu⟩:=hg
      exact call hu (call_ok St (keeps_fn St hi) ih c h (fun _=>id) fun vs us=>(fn_ok ihf c hi).r)
    · obtain ⟨ca,hi,hu⟩:=hg
      obtain ⟨ci,hci⟩:=St.clsA k ca hi
      exact call hu (call_ok St (keeps_cls (St.clss k ci ca hci hi)) ih c h (fun _=>id) fun vs us=>(new_ok St ihf c hi).r)
    · exact sx_bi St ih c h hd hn h1 h2 hg
  · exact SXe.bad
end
end Mine
end
section
open PySem PySem.W PySem.Calls PyProof.Rows
namespace Mine
set_option tactic.hygienic true in
theorem arr_pop {ws:Array Value} (m:Nat):(ws.eraseIdxIfInBounds m).toList=ws.toList.eraseIdx m:=by
  unfold Array.eraseIdxIfInBounds
  split
  · simp
  · rename_i h
    rw [List.eraseIdx_of_length_le]
    simpa using h
theorem seqIndex_nat {i:Int} {m:Nat} (h0:0≤i) (h:i.toNat < m):seqIndex? i m=some i.toNat:=by
  unfold seqIndex?
  have h1:¬ i < 0:=Int.not_lt.mpr h0
  simp only [if_neg h1]
  rw [if_pos (by rw [Bool.and_eq_true,decide_eq_true_eq,decide_eq_true_eq]; simp_all)]
section
variable {C:Ctx} {d m:Nat} {A:Around} {ex:Addr→Prop} {Γ:Cx} {env:Env} {ρ:En} {t:Cx→PySem.Expr→X} {es:List PySem.Expr} {pos apos:Pos} {o x:PySem.Expr} {u v:V} {a b:Value} {r:Nat} {vs:List V} {σ:Wo} {p:Addr×Addr} {ws:Array Value} {k:Nat} {nm:Str}
theorem list_wrote {vs':List V} {f:Array Value→Array Value} (I:Inv C σ) (x:LstV σ r vs p ws k) (l:vs'.length≤2 * lim) (q:All2 (VR σ.φ σ.h) vs' (f ws).toList) :
    Le C ex σ ⟨σ.φ,Sh.on σ.s (σ.h.update p.1 (Obj.mapSeq f)) σ.s.toks,σ.H.set r (.list vs')⟩ :=
  Le.wrote I x.at_ (fun a n=>Heap.get?_update_other _ _ fun z=>n (.inl z.symm)) (fun a d=>by
    have e:a=p.1:=d.elim id (·.trans x.one)
    subst e; exact ⟨_,IsL.update x.lst f⟩) fun S=>⟨f ws,_,IsL.update x.lst f,l,x.one,q.mono fun _ _ z=>z.step S no_seq⟩
theorem meth_shape {Q:Value→Shared→Prop} {s:Shared} (h0:isCall0 o=false) (hp:(apos.endLine == pos.line)=true) (hpl:plainArgs es=true)
    (h:wpAny (model C.prog C.w) A (eval o env) (fun ov s₁=>∀ pl,wpAny (model C.prog C.w) A (getMethod ov nm pl) (fun fx s₂=>wpAny (model C.prog C.w) A (callWith pos fx.1 fx.2 (backTo pos (starEach es env)) []) Q NE s₂) NE s₁) NE s) :
    wpAny (model C.prog C.w) A (eval (.Call (.Attribute o nm apos) es [] pos) env) Q NE s:=by
  have he:eval (.Call (.Attribute o nm apos) es [] pos) env=(do
      let ov ← attributeBase o nm env (eval o env)
      standAt apos.atName
      methodCall o nm apos pos env ov (es.length + 0) (backTo pos (starEach es env)) []):=rfl
  rw [he,base_plain h0]
  refine wpAny_bind (wpAny_mono h (fun ov s₁ h₁=>wpAny_bind (wpAny_standAt ?_)) fun _ _ x=>x)
  unfold methodCall
  have hf:methodCallForm (es.length + 0) (backTo pos (starEach es env)) []=true:=by
    have hl:=(plainArgs_iff hpl).2
    unfold methodCallForm
    rw [args_plain hpl]
    unfold argsOf
    simp only [List.all_map,List.all_nil,List.isEmpty_nil,if_true,Bool.and_true,Bool.and_eq_true,decide_eq_true_eq]
    exact ⟨by simp,by exact Nat.le_trans (by assumption) (by decide)⟩
  rw [hf]
  refine wpAny_bind (wpAny_holding ?_)
  unfold calleeOf
  rw [if_pos rfl]
  refine wpAny_mono (h₁ _) (fun fx s₂ h₂=>?_) fun _ _ x=>x
  unfold methodCallPos
  rw [hp]
  exact wpAny_bind (wpAny_pure h₂)
theorem list_meth {l:Addr} {ws:Array Value} {m:Nat} {id:String} {pl:Sem Bool} {s:Shared} {Q:Value×List Value→Shared→Prop} (hl:LstAt s.heap l ws m) (slot:Slot "list" nm id) (hty:typeOf (.builtin id)=pure (.type "method_descriptor"))
    (h:Q (.builtin id,[.ref l]) s):wpAny (model C.prog C.w) A (getMethod (.ref l) nm pl) Q NE s :=
  getMethod_builtin ⟨_,hl,rfl⟩ PySem.F.plainAttrs_list slot hty (fun a e=>by cases e; exact ⟨_,hl,rfl⟩) h
noncomputable def Lw (C:Ctx) (A:Around) (pos:Pos) (nm:Str) (args:List (Bool×Sem Value)) (a:Value):Tr Value:=fun Q s=>∀ pl,wpAny (model C.prog C.w) A (getMethod a nm pl) (fun fx s₂=>wpAny (model C.prog C.w) A (callWith pos fx.1 fx.2 args []) Q NE s₂) NE s
theorem lw_shape {g:V→Rn V} (ih:SX C d m t) (c:Cf d A) (h0:isCall0 o=false) (hp:(apos.endLine == pos.line)=true) (hpl:plainArgs es=true) (k:∀ u a,Sim C no ((evr Γ env ρ).and (vr u a)) (Lw C A pos nm (argsOf env es) a) (g u) vr) :
    Sim C no (evr Γ env ρ) (wp C A (eval (.Call (.Attribute o nm apos) es [] pos) env)) (bnd (runX C d m (t Γ o) ρ) g) vr:=by
  refine Sim.rule (fun Q s h=>meth_shape h0 hp hpl h) ?_
  rw [args_plain hpl]
  exact Sim.bind (ih Γ env A ρ o c) k
theorem lw_list {P:Mp C} {G:List V→Rn V} {id:String} {args:List (Bool×Sem Value)} (slot:Slot "list" nm id) (hty:typeOf (.builtin id)=pure (.type "method_descriptor"))
    (x:∀ σ r p vs ws n,Inv C σ→P.p σ→u=.ref r→VR σ.φ σ.h u (.ref p.1)→LstV σ r vs p ws n→okR (G vs σ.H) fun v H'=>∀ Q:Value→Shared→Prop,(∀ b s',Aft C no σ H' (vr (C:=C) v b).p s'→Q b s')→wp C A (callWith pos (.builtin id) [.ref p.1] args []) Q σ.s) :
    Sim C no (P.and (vr u a)) (Lw C A pos nm args a) (bnd (lstR u) G) vr:=by
  intro σ I ⟨hP,q⟩
  have q:VR σ.φ σ.h u a:=q
  rcases u with _ | _ | _ | _ | _ | _ | r<;>try trivial
  refine okR_bnd (okR_lft (ok_listAt fun vs e=>?_))
  have q':=q
  revert q'
  refine I.list e q ?_
  intro p ws n z q'
  exact okR_mono (x σ r p vs ws n I hP rfl q' z) fun v H' y Q k pl=>list_meth z.lst slot hty (y Q k)
theorem sx_pop (ih:SX C d m t) (c:Cf d A) (h0:isCall0 o=false) (hp:(apos.endLine == pos.line)=true):SXe C d (m + 1) Γ env A ρ (.Call (.Attribute o "pop" apos) [] [] pos) (.pop (t Γ o)):=by
  refine lw_shape (g:=popR) ih c h0 hp rfl fun u a=>lw_list PySem.F.slot_list_pop PySem.F.type_list_pop fun σ r p vs ws n I _ hu _ x=>okR_bnd (okR_lft (ok_of fun v hv=>?_))
  subst hu
  rw [List.getLast?_eq_getElem?] at hv
  obtain ⟨y,hy,qy⟩:=x.all.get' hv
  have L:Le C no σ _:=list_wrote (vs':=vs.dropLast) (f:=fun xs=>xs.eraseIdxIfInBounds (ws.size - 1)) I x (by rw [List.length_dropLast]; exact Nat.le_trans (Nat.sub_le _ _) x.le) (by
    rw [arr_pop,x.size,List.dropLast_eq_take,List.eraseIdx_eq_take_drop_succ,List.drop_eq_nil_of_le (by rw [Array.length_toList,x.size]; omega),List.append_nil]
    exact x.all.take _)
  exact fun Q k=>P.pop_list x.lst (y:=y) (by rw [x.size]; exact Array.getElem?_toList.symm.trans hy) (k _ _ (Aft.at L (qy.le L))) (by rw [x.size]; exact size_ok x.le)
theorem sx_reverse (ih:SX C d m t) (c:Cf d A) (h0:isCall0 o=false) (hp:(apos.endLine == pos.line)=true):SXe C d (m + 1) Γ env A ρ (.Call (.Attribute o "reverse" apos) [] [] pos) (.reverse (t Γ o)):=by
  refine lw_shape (g:=fun u=>bnd (lstR u) fun vs=>putO u (.list vs.reverse)) ih c h0 hp rfl fun u a=>lw_list PySem.F.slot_list_reverse PySem.F.type_list_reverse fun σ r p vs ws n I _ hu _ x=>?_
  subst hu
  exact fun Q k=>P.reverse_list x.lst (k _ _ (Aft.at (list_wrote (vs':=vs.reverse) I x (by rw [List.length_reverse]; exact x.le) (by rw [Array.toList_reverse]; exact x.all.reverse)) vr_none)) (by rw [x.size]; exact size_ok x.le)
theorem arg_list {l:Addr} {w:List V→Tr Value} {G:V→List V→Rn V} (x:∀ σ r p vs ws n,Inv C σ→VR σ.φ σ.h v b→u=.ref r→l=p.1→LstV σ r vs p ws n→okR (G v vs σ.H) fun z H'=>∀ Q:Value→Shared→Prop,(∀ b s',Aft C no σ H' (vr (C:=C) z b).p s'→Q b s')→w vs Q σ.s) :
    Sim C no ((vr u (.ref l)).and (vr v b)) (fun Q s=>∃ vs,w vs Q s) (bnd (lstR u) (G v)) vr:=by
  intro σ I ⟨q,qb⟩
  rcases u with _ | _ | _ | _ | _ | _ | r<;>try trivial
  refine okR_bnd (okR_lft (ok_listAt fun vs e=>?_))
  obtain ⟨p,hp,e1⟩:=q
  obtain ⟨p',hp',z⟩:=I.hr.obj.get' e
  cases Option.some.inj (hp'.symm.trans hp)
  obtain ⟨ws,n,hl,le,e2,z⟩:=z
  exact okR_mono (x σ r p vs ws n I qb rfl (Value.ref.inj e1) ⟨hp,hl,e2,le,z.length.symm,z⟩) fun z H' y Q k=>⟨vs,y Q k⟩
theorem append_ok {l:Addr}:Sim C no ((vr u (.ref l)).and (vr v b)) (fun Q s=>∃ items n,items.size≤sizeLine∧LstAt s.heap l items n∧Q .none (Sh.on s (s.heap.update l (Obj.mapSeq fun xs=>xs.push b)) s.toks)) (appR u v) vr:=by
  refine Sim.rule (w':=fun Q s=>∃ vs:List V,∃ items n,items.size≤sizeLine∧LstAt s.heap l items n∧Q .none (Sh.on s (s.heap.update l (Obj.mapSeq fun xs=>xs.push b)) s.toks)) (fun Q s ⟨_,h⟩=>h) ?_
  refine arg_list (G:=fun v vs=>grd (Nat.blt vs.length lim) (putO u (.list (vs++[v])))) fun σ r p vs ws n I qb hu hl x=>okR_grd fun hlt=>?_
  subst hu hl
  have hlt:=Nat.le_of_ble_eq_true hlt
  exact fun Q k=>⟨ws,n,by rw [x.size]; exact size_ok x.le,x.lst,k _ _ (Aft.at (list_wrote (vs':=vs++[v]) (f:=fun xs=>xs.push b) I x (by rw [List.length_append]; exact Nat.le_trans hlt (by decide)) (by rw [Array.toList_push]; exact x.all.append (.cons qb .nil))) vr_none)⟩
theorem sx_append (ih:SX C d m t) (c:Cf d A) (h0:isCall0 o=false) (hp:(apos.endLine == pos.line)=true) (hpl:plainArgs [x]=true):SXe C d (m + 1) Γ env A ρ (.Call (.Attribute o "append" apos) [x] [] pos) (.append (t Γ o) (t Γ x)):=by
  refine lw_shape (g:=fun u=>bnd (lstR u) fun _=>bnd (runX C d m (t Γ x) ρ) (appR u)) ih c h0 hp hpl fun u a=>lw_list PySem.F.slot_list_append PySem.F.type_list_append fun σ r p vs ws n I E hu q z=>?_
  have S:Sim C no ((evr Γ env ρ).and (vr u (.ref p.1))) (wp C A (callWith pos (.builtin "list.append") [.ref p.1] (argsOf env [x]) [])) (bnd (runX C d m (t Γ x) ρ) (appR u)) vr:=by
    refine Sim.rule (fun Q s=>P.append_list) ?_
    exact Sim.bind (ih Γ env A ρ x c).l fun v b=>Sim.wk append_ok fun σ p=>⟨p.1.2,p.2⟩
  exact S σ I ⟨E,q⟩
theorem popAt_ok {l:Addr}:Sim C no ((vr u (.ref l)).and (vr v b)) (fun Q s=>∃ items n i u k y,items.size≤sizeLine∧b=.int i u∧LstAt s.heap l items n∧Builtin.List.listFitsIndex i=true∧seqIndex? i items.size=some k∧items[k]?=some y∧Q y (Sh.on s (s.heap.update l (Obj.mapSeq fun xs=>xs.eraseIdxIfInBounds k)) s.toks)) (popAt u v) vr:=by
  rcases v with _ | _ | i | _ | _ | _ | _<;>try exact Sim.non
  refine Sim.rule (w':=fun Q s=>∃ vs:List V,∃ items n i u k y,items.size≤sizeLine∧b=.int i u∧LstAt s.heap l items n∧Builtin.List.listFitsIndex i=true∧seqIndex? i items.size=some k∧items[k]?=some y∧Q y (Sh.on s (s.heap.update l (Obj.mapSeq fun xs=>xs.eraseIdxIfInBounds k)) s.toks)) (fun Q s ⟨_,h⟩=>h) ?_
  refine arg_list (G:=fun _ vs=>grd (small i && decide (0≤i)) (bnd (lft vs[i.toNat]?) fun v=>bnd (putO u (.list (vs.eraseIdx i.toNat))) fun _=>pur v)) fun σ r p vs ws n I qb hu hl x=>okR_grd fun hs=>okR_bnd (okR_lft (ok_of fun y hy=>?_))
  subst hu hl
  obtain ⟨h1,h2⟩:=and_tt hs
  rw [small_iff] at h1
  have h2:=of_decide_eq_true h2
  obtain ⟨t,rfl⟩:=qb
  obtain ⟨y',hy',qy⟩:=x.all.get' hy
  have lt:=(List.getElem?_eq_some_iff.mp hy).1
  have L:Le C no σ _:=list_wrote (f:=fun xs=>xs.eraseIdxIfInBounds i.toNat) (vs':=vs.eraseIdx i.toNat) I x (Nat.le_trans (List.length_eraseIdx_le vs _) x.le) (by rw [arr_pop]; exact x.all.eraseIdx _)
  refine fun Q k=>⟨ws,n,i,t,i.toNat,y',by rw [x.size]; exact size_ok x.le,rfl,x.lst,?_,seqIndex_nat h2 (by rw [x.size]; exact lt),Array.getElem?_toList.symm.trans hy',k _ _ (Aft.at L (qy.le L))⟩
  unfold Builtin.List.listFitsIndex
  rw [Bool.and_eq_true,decide_eq_true_eq,decide_eq_true_eq]
  omega
theorem sx_pop0 (ih:SX C d m t) (c:Cf d A) (h0:isCall0 o=false) (hp:(apos.endLine == pos.line)=true) (hpl:plainArgs [x]=true):SXe C d (m + 1) Γ env A ρ (.Call (.Attribute o "pop" apos) [x] [] pos) (.pop0 (t Γ o) (t Γ x)):=by
  refine lw_shape (g:=fun u=>bnd (lstR u) fun _=>bnd (runX C d m (t Γ x) ρ) (popAt u)) ih c h0 hp hpl fun u a=>lw_list PySem.F.slot_list_pop PySem.F.type_list_pop fun σ r p vs ws n I E hu q z=>?_
  have S:Sim C no ((evr Γ env ρ).and (vr u (.ref p.1))) (wp C A (callWith pos (.builtin "list.pop") [.ref p.1] (argsOf env [x]) [])) (bnd (runX C d m (t Γ x) ρ) (popAt u)) vr:=by
    refine Sim.rule (fun Q s=>P.pop_at_list) ?_
    exact Sim.bind (ih Γ env A ρ x c).l fun v b=>Sim.wk popAt_ok fun σ p=>⟨p.1.2,p.2⟩
  exact S σ I ⟨E,q⟩
theorem sx_meth {k:Nat} (St:Stat C) (ih:SX C d m t) (ihf:SF C d) (c:Cf d A) (h0:isCall0 o=false) (hp:(apos.endLine == pos.line)=true) (hpl:plainArgs es=true) (ha:C.W.attr nm=some k) :
    SXe C d (m + 1) Γ env A ρ (.Call (.Attribute o nm apos) es [] pos) (.meth (t Γ o) k (es.map (t Γ))):=by
  refine lw_shape (g:=fun u=>bnd (methR C.T k u) fun i=>bnd (evs (runX C d m) ρ (es.map (t Γ))) fun vs=>evF C.T d i (u::vs)) ih c h0 hp hpl fun u a=>?_
  refine Sim.all fun pl=>Sim.bind (meth_ok St ha).r fun i fx=>Sim.fact fun ⟨fa,hi,e⟩=>?_
  subst e
  rw [← args_plain (pos:=pos) hpl]
  exact call_ok (first:=[a]) St (keeps_fn St hi) ih c hpl (fun _=>And.left) fun vs us=>Sim.wk (fn_ok ihf c hi) fun σ p=>.cons p.1.2 p.2
theorem sx_CallAttr (St:Stat C) (ih:SX C d m t) (ihf:SF C d) (c:Cf d A):SXe C d (m + 1) Γ env A ρ (.Call (.Attribute o nm apos) es [] pos) (trCall C.W Γ (t Γ) (.Attribute o nm apos) es pos):=by
  refine SXe.cond fun hc=>?_
  have ⟨h,hpl⟩:=and_tt hc
  have ⟨hp,h0⟩:=and_tt h
  have h0:isCall0 o=false:=by rcases e:isCall0 o with _ | _; rfl; rw [e] at h0; exact nB h0
  have me:SXe C d (m + 1) Γ env A ρ (.Call (.Attribute o nm apos) es [] pos) (withAttr C.W nm fun k=>.meth (t Γ o) k (es.map (t Γ))):=SXe.attr fun k ha=>sx_meth St ih ihf c h0 hp hpl ha
  rcases es with _ | ⟨x,_ | ⟨y,r⟩⟩
  · show SXe C d (m + 1) Γ env A ρ _ (cond _ _ _)
    rcases e1:nm == ("pop":Str) with _ | _
    · show SXe C d (m + 1) Γ env A ρ _ (cond _ _ _)
      rcases e2:nm == ("reverse":Str) with _ | _
      · exact me
      · rw [eq_of_beq e2]; exact sx_reverse ih c h0 hp
    · rw [eq_of_beq e1]; exact sx_pop ih c h0 hp
  · show SXe C d (m + 1) Γ env A ρ _ (cond _ _ _)
    rcases e1:nm == ("append":Str) with _ | _
    · show SXe C d (m + 1) Γ env A ρ _ (cond _ _ _)
      rcases e2:nm == ("pop":Str) with _ | _
      · exact me
      · rw [eq_of_beq e2]; exact sx_pop0 ih c h0 hp hpl
    · rw [eq_of_beq e1]; exact sx_append ih c h0 hp hpl
  · exact me
theorem sx_Dict {ks:List (Option PySem.Expr)} {vs:List PySem.Expr} (e:ks=[]∧vs=[]):SXe C d (m + 1) Γ env A ρ (.Dict ks vs pos) (.dict [] []):=by
  obtain ⟨rfl,rfl⟩:=e
  exact fun σ I _ Q k=>wpAny_Dict_empty (k _ _ ⟨_,Le.push (tk:=σ.s.toks) (p:=(σ.h.objs.size,σ.h.objs.size)) (o:=.dict []) I push_keeps (fun a d=>(show a=σ.h.objs.size from d.elim id id)▸I.fresh) fun _ =>
    ⟨[],Heap.DictOf.new _,Nat.le_refl 0,Nat.zero_le _,rfl,fun _=>trivial⟩,(σ.h.objs.size,σ.h.objs.size),by rw [I.hr.obj.length]; exact List.getElem?_concat_length,rfl⟩)
end
end Mine
end
section
open PySem PySem.W PySem.Calls PyProof.Rows
namespace Mine
section
variable {α β γ:Type}
theorem bnd_assoc {f:Rn α} {g:α→Rn β} {h:β→Rn γ}:bnd (bnd f g) h=bnd f fun a=>bnd (g a) h:=by
  funext H
  unfold bnd
  rcases f H with _ | _<;>rfl
theorem bnd_some {f:Rn α} {g:α→Rn β} {H H':Hp} {b:β} (e:bnd f g H=some (b,H')):∃ a H₁,f H=some (a,H₁)∧g a H₁=some (b,H'):=by
  unfold bnd at e
  rcases h:f H with _ | ⟨a,H₁⟩
  · rw [h] at e; exact nS e
  · rw [h] at e; exact ⟨a,H₁,rfl,e⟩
theorem bnd_pur {f:Rn α}:bnd f pur=f:=by
  funext H
  unfold bnd
  rcases f H with _ | _<;>rfl
theorem bnd_congr {f:Rn α} {g g':α→Rn β} (h:∀ a,g a=g' a):bnd f g=bnd f g':=congrArg (bnd f) (funext h)
end
theorem bops_tru {f:Rn V} {b:Bool} {r:Rn V}:(bnd (bnd f fun v=>bnd (truR v) fun t=>cond (t == b) r (pur v)) truR)=bnd (bnd f truR) fun t=>cond (t == b) (bnd r truR) (pur t):=by
  rw [bnd_assoc,bnd_assoc]
  refine bnd_congr fun v=>?_
  funext H
  show bnd (bnd (lft (truthV H v)) fun t=>cond (t == b) r (pur v)) truR H=bnd (lft (truthV H v)) (fun t=>cond (t == b) (bnd r truR) (pur t)) H
  rcases h:truthV H v with _ | t
  · rfl
  · show bnd (cond (t == b) r (pur v)) truR H=cond (t == b) (bnd r truR) (pur t) H
    rcases t == b with _ | _
    · show lft (truthV H v) H=_
      rw [h]; rfl
    · rfl
section
variable {C:Ctx} {d m:Nat} {A:Around} {ex:Addr→Prop} {Γ:Cx} {env:Env} {ρ:En} {t:Cx→PySem.Expr→X} {pos:Pos} {e y:PySem.Expr} {x:X} {op:BoolOp} {whole:Sem Value}
theorem st_plain (h:SXe C d m Γ env A ρ e x) (hi:isTrue e env (eval e env)=(do let v ← eval e env; standAt e.pos; holding [v] (truthy v))):STe C d m Γ env A ρ e x :=
  Sim.rule (fun Q s h=>isTrue_plain h hi) (Sim.bind h fun v a=>truth_ok.r)
theorem STe.bad:STe C d m Γ env A ρ e .bad:=by
  rcases m with _ | m<;>exact Sim.non
theorem STe.dnoc {b:Bool} (h:b=false→STe C d m Γ env A ρ e x):STe C d m Γ env A ρ e (_root_.cond b .bad x):=by
  rcases b with _ | _
  · exact h rfl
  · exact STe.bad
theorem st_Not (ih:ST C d m t) (c:Cf d A):STe C d (m + 1) Γ env A ρ (.UnaryOp .Not y pos) (.not (t Γ y)):=by
  refine Sim.eq (f':=bnd (bnd (runX C d m (t Γ y) ρ) truR) fun b=>pur (!b)) (Sim.rule (fun Q s=>isTrue_not) ?_) ((bnd_assoc.trans (bnd_congr fun v=>bnd_assoc)).trans bnd_assoc.symm)
  exact Sim.bind (ih Γ env A ρ y c) fun b a=>Sim.pure fun σ p=>congrArg not p.2
theorem st_Compare {l r:PySem.Expr} {op:CmpOp} (ih:SX C d m t) (c:Cf d A) (hm:behindInMarks op r=false):STe C d (m + 1) Γ env A ρ (.Compare l [op] [r] pos) (.cmp op (t Γ l) (t Γ r)):=by
  refine Sim.eq (f':=bnd (runX C d m (t Γ l) ρ) fun u=>bnd (runX C d m (t Γ r) ρ) fun v=>bnd (fun H=>lft (cmpV op u v H) H) truR) (Sim.rule (fun Q s h=>wpAny_isTrue_Compare1 h hm) ?_) (Eq.trans (bnd_assoc (f:=runX C d m (t Γ l) ρ) (g:=fun u=>bnd (runX C d m (t Γ r) ρ) fun v H=>lft (cmpV op u v H) H)) (bnd_congr fun v=>bnd_assoc))
  refine Sim.bind (ih Γ env A ρ l c) fun u a=>Sim.bind (ih Γ env A ρ r c).l fun v b=>?_
  exact Sim.bind (Sim.wk (cmp_ok c.room) fun σ p=>⟨p.1.2,p.2⟩) fun w z=>truth_ok.r
theorem st_bops (ih:ST C d m t) (c:Cf d A):∀ es:List PySem.Expr,Sim C no (evr Γ env ρ) (wp C A (isTrue (.BoolOp op es pos) env whole)) (bnd (bops (runX C d m) (op == .And) ρ (es.map (t Γ))) truR) eqm:=by
  intro es
  induction es with
  | nil=>exact Sim.non
  | cons x es IH =>
    rcases es with _ | ⟨y,es⟩
    · refine Sim.eq (f':=bnd (bnd (runX C d m (t Γ x) ρ) truR) pur) ?_ bnd_pur.symm
      rcases op with _ | _
      · refine Sim.rule (fun Q s=>isTrue_and) (Sim.bind (ih Γ env A ρ x c) (Sim.bool (Sim.rule (fun Q s=>isTrue_and_nil) ?_) ?_))
        · exact Sim.pure fun _ _=>rfl
        · exact Sim.pure fun _ _=>rfl
      · refine Sim.rule (fun Q s=>isTrue_or) (Sim.bind (ih Γ env A ρ x c) (Sim.bool ?_ (Sim.rule (fun Q s=>isTrue_or_nil) ?_)))
        · exact Sim.pure fun _ _=>rfl
        · exact Sim.pure fun _ _=>rfl
    · refine Sim.eq (f':=bnd (bnd (runX C d m (t Γ x) ρ) truR) fun b=>cond (b == (op == .And)) (bnd (bops (runX C d m) (op == .And) ρ ((y::es).map (t Γ))) truR) (pur b)) ?_ bops_tru
      rcases op with _ | _
      · refine Sim.rule (fun Q s=>isTrue_and) (Sim.bind (ih Γ env A ρ x c) (Sim.bool IH ?_))
        exact Sim.pure fun _ _=>rfl
      · refine Sim.rule (fun Q s=>isTrue_or) (Sim.bind (ih Γ env A ρ x c) (Sim.bool ?_ IH))
        exact Sim.pure fun _ _=>rfl
set_option tactic.hygienic true in
theorem st_step (ih:SX C d m t) (ih1:SX C d (m + 1) (stepTr C.W t)) (it:ST C d m t):ST C d (m + 1) (stepTr C.W t):=by
  intro Γ env A ρ e c
  have pl:=fun h=>st_plain (ih1 Γ env A ρ e c) h
  cases e<;>try exact pl rfl
  · rename_i op es pos
    exact st_bops it c es
  · rename_i op x pos
    cases op<;>first | exact pl rfl | exact st_Not it c
  · exact STe.bad
  · rename_i l ops rs pos
    rcases ops with _ | ⟨op,_ | ⟨op2,ops⟩⟩
    · exact STe.bad
    · rcases rs with _ | ⟨r,_ | ⟨r2,rs⟩⟩
      · exact STe.bad
      · exact STe.dnoc fun hm=>st_Compare ih c hm
      · exact STe.bad
    · exact STe.bad
end
end Mine
end
section
open PySem PySem.W PySem.Calls PyProof.Rows
namespace Mine
section
variable {C:Ctx} {d m:Nat} {A:Around} {Γ:Cx} {env:Env} {ρ:En} {t:Cx→PySem.Expr→X} {pos:Pos} {σ:Wo} {φ:Phi} {h:Heap}
noncomputable def prsOf (env:Env) (pos:Pos) (kvs:List (PySem.Expr×PySem.Expr)):List (Sem Value×Sem Value):=kvs.map fun p=>(eval p.1 env,do let x ← eval p.2 env; standAt pos; pure x)
noncomputable def flatV:List (Value×Value)→List Value
  | []=>[]
  | p::r=>p.1::p.2::flatV r
theorem prs_ok (ih:SX C d m t) (c:Cf d A) (kvs:List (PySem.Expr×PySem.Expr)) :
    Sim C no (evr Γ env ρ) (wp C A (evalPairs (prsOf env pos kvs))) (evs (runX C d m) ρ (ilv (kvs.map fun p=>t Γ p.1) (kvs.map fun p=>t Γ p.2))) fun us vs=>vrs us (flatV vs):=by
  induction kvs with
  | nil=>exact Sim.rule (w':=fun Q s=>Q [] s) (fun Q s h=>evalPairs_nil h) (Sim.pure fun σ p=>.nil)
  | cons p r IH =>
    obtain ⟨k,v⟩:=p
    refine Sim.rule (fun Q s h=>evalPairs_cons h) (Sim.bind (ih Γ env A ρ k c) fun u a=>?_)
    refine Sim.eq (f':=bnd (runX C d m (t Γ v) ρ) fun w=>bnd (evs (runX C d m) ρ (ilv (r.map fun p=>t Γ p.1) (r.map fun p=>t Γ p.2))) fun ws=>pur (u::w::ws)) ?_ ?_
    · refine Sim.rule (w':=fun Q s=>wpAny (model C.prog C.w) A (eval v env) (fun b s₂=>wpAny (model C.prog C.w) A (evalPairs (prsOf env pos r)) (fun vs s₃=>Q ((a,b)::vs) s₃) NE s₂) NE s) (fun Q s h=>?_) ?_
      · exact wpAny_bind (wpAny_mono h (fun b s₂ h₂=>wpAny_bind (wpAny_standAt (wpAny_pure h₂))) fun _ _ x=>x)
      · refine Sim.bind (ih Γ env A ρ v c).l fun w b=>?_
        refine Sim.bind IH.l.l fun ws vs=>?_
        exact Sim.pure fun σ p=>.cons p.1.1.2 (.cons p.1.2 p.2)
    · show bnd (bnd (runX C d m (t Γ v) ρ) fun w=>bnd (evs (runX C d m) ρ (ilv (r.map fun p=>t Γ p.1) (r.map fun p=>t Γ p.2))) fun ws=>pur (w::ws)) (fun vs=>pur (u::vs))=_
      rw [bnd_assoc]
      refine congrArg _ (funext fun w=>?_)
      rw [bnd_assoc]; rfl
theorem carries {us:List V}:∀ {vs:List (Value×Value)} {ps:List (Int×V)},dPairs us=some ps→All2 (VR φ h) us (flatV vs)→∃ kvs,Carries (intKind C.prog C.w) vs kvs∧kvs.map (·.1)=ps.map (·.1)∧∀ k,MR φ h (dget k ps) (valueAt kvs k):=by
  intro vs
  induction vs generalizing us with
  | nil =>
    intro ps e q
    cases q
    cases e
    exact ⟨[],trivial,rfl,fun k=>trivial⟩
  | cons p r ih =>
    intro ps e q
    obtain ⟨a,b⟩:=p
    cases q with
    | @cons u _ us' _ qa q =>
      cases q with
      | @cons w _ us'' _ qb q =>
        have e:((intO u).bind fun i=>(dPairs us'').map fun es=>(i,w)::es)=some ps:=e
        obtain ⟨i,hi,e⟩:=Option.bind_eq_some_iff.mp e
        obtain ⟨qs,hq,rfl⟩:=Option.map_eq_some_iff.mp e
        obtain ⟨kvs,c1,c2,c3⟩:=ih hq q
        obtain ⟨j,rfl⟩:∃ j,u=.int j:=by
          cases u with
          | int j=>exact ⟨j,rfl⟩
          | _=>exact nS hi
        cases (show some j=some i from hi)
        obtain ⟨tk,rfl⟩:∃ tk,a=.int i tk:=qa
        refine ⟨(i,b)::kvs,⟨intKind_is _ _ _ _,rfl,c1⟩,by rw [List.map_cons,List.map_cons,c2],fun k=>?_⟩
        rw [valueAt_cons]
        show MR φ h (if (i == k)=true then some w else dget k qs) _
        by_cases e:i=k
        · rw [if_pos (beq_iff_eq.mpr e),if_pos e]; exact qb
        · rw [if_neg fun z=>e (eq_of_beq z),if_neg e]; exact c3 k
theorem keys_zip (env:Env) (pos:Pos) (kvs:List (PySem.Expr×PySem.Expr)) :
    (evalEachOpt (kvs.map fun p=>some p.1) env).zip ((evalEach (kvs.map fun p=>p.2) env).map fun v=>do let x ← v; standAt pos; pure x)=(prsOf env pos kvs).map fun p=>(some p.1,p.2):=by
  induction kvs with
  | nil=>rfl
  | cons p r ih=>exact congrArg (_::·) ih
theorem sx_Dicts (ih:SX C d m t) (c:Cf d A) {k:PySem.Expr} {v:PySem.Expr} {kvs:List (PySem.Expr×PySem.Expr)} (hl:kvs.length≤8) :
    SXe C d (m + 1) Γ env A ρ (.Dict (((k,v)::kvs).map fun p=>some p.1) (((k,v)::kvs).map fun p=>p.2) pos) (.dict (((k,v)::kvs).map fun p=>t Γ p.1) (((k,v)::kvs).map fun p=>t Γ p.2)):=by
  intro σ I E
  have L0:Le C no σ ⟨σ.φ++[(σ.h.objs.size,σ.h.objs.size)],Sh.on σ.s (σ.h.push { cls:=.type "dict",data:=.dict #[] }) σ.s.toks,σ.H++[.dict []]⟩ :=
    Le.push (tk:=σ.s.toks) (p:=(σ.h.objs.size,σ.h.objs.size)) (o:=.dict []) I push_keeps (fun a d=>(show a=σ.h.objs.size from d.elim id id)▸I.fresh) fun _=>⟨[],Heap.DictOf.new _,Nat.le_refl 0,Nat.zero_le _,rfl,fun _=>trivial⟩
  have E0:=(evr Γ env ρ).up L0 E
  refine okR_bnd (f:=evs (runX C d m) ρ (ilv (((k,v)::kvs).map fun p=>t Γ p.1) (((k,v)::kvs).map fun p=>t Γ p.2))) (g:=mkDict σ.H.length) (H:=σ.H++[.dict []]) (okR_of fun us H₁ e1=>okR_of fun u H₂ e2=>?_)
  intro Q K
  obtain ⟨es,hd,e2⟩:=Option.bind_eq_some_iff.mp e2
  obtain ⟨ps,hp,e2⟩:=Option.bind_eq_some_iff.mp e2
  rcases hc:es.isEmpty && (decide (ps.map (·.1)).Nodup && decide (ps.length≤8)) with _ | _<;>rw [hc] at e2
  · exact nS e2
  cases e2
  have ⟨h1,h2⟩:=and_tt hc
  have ⟨h2,h3⟩:=and_tt h2
  have nd:=of_decide_eq_true h2
  have l8:=of_decide_eq_true h3
  have e0:es=[]:=List.isEmpty_iff.mp h1
  subst e0
  refine wpAny_Dict_pairs (knd:=intKind C.prog C.w) (pairs:=prsOf env pos ((k,v)::kvs)) (keys_zip env pos _) (List.cons_ne_nil _ _) (by unfold prsOf; rw [List.length_map,List.length_cons]; (first | lia | omega +splitDisjunctions)) ?_
  refine okR_get e1 (prs_ok ih c ((k,v)::kvs) _ L0.inv E0) _ fun vs s₁ ⟨φ₁,L1,q⟩=>?_
  have hφ:φ₁[σ.H.length]?=some (σ.h.objs.size,σ.h.objs.size):=L1.st.look (by rw [I.hr.obj.length]; exact List.getElem?_concat_length)
  have hH:H₁[σ.H.length]?=some (.dict []):=by
    unfold dictAt at hd
    rcases z:H₁[σ.H.length]? with _ | ⟨x⟩ | ⟨x⟩ | ⟨x,y⟩ | ⟨x⟩<;>rw [z] at hd<;>first | exact nS hd | skip
    cases hd; rfl
  obtain ⟨o,ho,q'⟩:=L1.inv.hr.obj.get hφ
  cases Option.some.inj (ho.symm.trans hH)
  obtain ⟨ka,da,la,_,_,_⟩:=q'
  have ka0:ka=[]:=List.eq_nil_of_length_eq_zero (Nat.le_zero.mp la)
  subst ka0
  obtain ⟨kvs',c1,c2,c3⟩:=carries (C:=C) hp q
  have nd':(kvs'.map (·.1)).Nodup:=c2▸nd
  have len:kvs'.length=ps.length:=by rw [← List.length_map (f:=(·.1)),c2,List.length_map]
  refine ⟨kvs',c1,da,fun h' hm sb=>?_⟩
  rw [merged_nil_of_nodup _ nd'] at hm
  refine K _ _ ⟨φ₁,(L0.trans L1).trans (Le.wrote (σ:=⟨φ₁,s₁,H₁⟩) (tk:=s₁.toks + vs.length) (o:=.dict ps) L1.inv hφ (fun a n=>sb.2 a fun z=>n (.inl z)) (fun a d=>?_) fun S=>⟨kvs',hm,Nat.le_of_eq len,Nat.le_trans l8 (by decide),rfl,fun k=>(c3 k).step S no_seq⟩),_,hφ,rfl⟩
  have e:a=σ.h.objs.size:=d.elim id id
  subst e
  obtain ⟨o',_,_,ho',_⟩:=hm; exact ⟨o',ho'⟩
end
end Mine
end
section
open PySem PySem.W PySem.Calls PyProof.Rows
namespace Mine
noncomputable def exF (env:Env):Addr→Prop:=fun a=>a=env.locals∨∃ x,env.cells.lookup x=some a
noncomputable def slotAt (env:Env) (x:Str):Addr→Prop:=fun a=>(a=env.locals∧env.kindOf x=some .local)∨(env.cells.lookup x=some a∧env.kindOf x=some .cell)
theorem slot_ex {env:Env} {x:Str} {a:Addr} (h:slotAt env x a):exF env a:=h.imp And.left fun h=>⟨x,h.1⟩
theorem Ns_notSeq {h:Heap} {a:Addr} {m:Str→Option Value} (x:h.Ns a m):¬ SeqOb h a:=by
  rintro ⟨o,ws,n,ho,hd⟩
  obtain ⟨o',es,ep,ho',hd',_⟩:=x
  cases Option.some.inj (ho.symm.trans ho')
  exact nomatch hd.symm.trans hd'
theorem cell_notSeq {h:Heap} {a:Addr} {m:Option Value} (x:h.IsCell a m):¬ SeqOb h a:=by
  rintro ⟨o,ws,n,ho,hd⟩
  obtain ⟨o',ho',hd'⟩:=x
  cases Option.some.inj (ho.symm.trans ho')
  exact nomatch hd.symm.trans hd'
theorem Ns_cell {h:Heap} {a c:Addr} {m:Str→Option Value} {vo:Option Value} (x:h.Ns a m) (y:h.IsCell c vo):a≠c:=by
  rintro rfl
  obtain ⟨o',es,ep,ho',hd',_⟩:=x
  obtain ⟨o,ho,hd⟩:=y
  cases Option.some.inj (ho.symm.trans ho')
  exact nomatch hd.symm.trans hd'
section
variable {C:Ctx} {d m:Nat} {A:Around} {ex:Addr→Prop} {Γ:Cx} {env:Env} {ρ:En} {φ φ':Phi} {h h':Heap} {σ:Wo} {v:V} {u:Value} {x:Str} {i:Nat}
theorem Fr.sub {ex':Addr→Prop} (F:Fr C σ ex) (h:∀ a,ex' a→ex a):Fr C σ ex':=⟨fun a s n=>F.seq a s (h a n),fun a n=>F.own a (h a n),fun a n=>F.base a (h a n)⟩
theorem EnvR.fr (E:EnvR C Γ env ρ σ.φ σ.h):Fr C σ (exF env):=by
  obtain ⟨m,hm,_⟩:=E.loc
  refine ⟨fun a hs=>?_,fun a=>?_,fun a=>?_⟩<;>rintro (rfl | ⟨x,hx⟩)
  · exact Ns_notSeq hm hs
  · obtain ⟨vo,z⟩:=E.clive x a hx; exact cell_notSeq z hs
  · exact E.lown
  · exact E.cown x a hx
  · exact E.S.lbase
  · exact E.S.cbase x a hx
theorem EnvR.keep (E:EnvR C Γ env ρ φ h) (S:Step ex φ h φ' h') (hx:Qt h ex) (n:∀ a,exF env a→¬ ex a):EnvR C Γ env ρ φ' h':=by
  have ⟨m,⟨o,es,ep,ho,r⟩,hl⟩:=E.loc
  have cell:∀ x c vo,env.cells.lookup x=some c→h.IsCell c vo→h'.IsCell c vo:=fun x c vo hc ⟨oc,hoc,hd⟩=>⟨oc,S.keep _ _ hoc (E.cown x c hc) (n c (.inr ⟨x,hc⟩)),hd⟩
  refine ⟨E.S,E.len,⟨m,⟨o,es,ep,S.keep _ _ ho E.lown (n _ (.inl rfl)),r⟩,fun x i hi=>?_⟩,S.notOwn ho E.lown,fun x c hc=>?_,fun x c hc=>let ⟨vo,hv⟩:=E.clive x c hc; ⟨vo,cell x c vo hc hv⟩⟩
  · rcases hl x i hi with ⟨a,b⟩ | ⟨c,vo,a,hc,hcell,b⟩
    · exact .loc a (b.step S hx)
    · exact .cell c vo a hc (cell x c vo hc hcell) (b.step S hx)
  · obtain ⟨vo,oc,hoc,_⟩:=E.clive x c hc
    exact S.notOwn hoc (E.cown x c hc)
theorem same_step {a:Addr} (sb:Heap.SameBut a h h'):Step (fun b=>b=a) φ h φ h':=⟨⟨[],(List.append_nil φ).symm,nofun⟩,fun b o e _ n=>(sb.2 b n).trans e⟩
theorem EnvR.put {a:Addr} {mm mm':Str→Option Value} (E:EnvR C Γ env ρ φ h) (hx:Γ.sl.lookup x=some i) (hl:∀ y j,Γ.sl.lookup y=some j→SlotR φ h env mm y ρ[j]?) (sb:Heap.SameBut a h h') (ns:¬ SeqOb h a)
    (hn:h'.Ns env.locals mm') (hm:∀ y,y≠x→mm' y=mm y) (hs:∀ o,Hold φ h' o (some u)→SlotR φ h' env mm' x o) (hc:∀ y c vo,env.cells.lookup y=some c→h.IsCell c vo→y≠x→h'.IsCell c vo) (hv:∀ c,env.cells.lookup x=some c→∃ vo,h'.IsCell c vo)
    (q:VR φ h v u):EnvR C Γ env (setLoc ρ i v) φ h':=by
  have S:Step (fun b=>b=a) φ h φ h':=same_step sb
  have Q:Qt h fun b=>b=a:=fun b hb e=>ns (e▸hb)
  have len:i < ρ.length:=E.len▸E.S.lt x i hx
  refine ⟨E.S,List.length_set.trans E.len,⟨mm',hn,fun y j hy=>?_⟩,E.lown,E.cown,fun y c hcy=>?_⟩
  · by_cases e:y=x
    · subst e
      cases Option.some.inj (hx.symm.trans hy)
      refine hs _ fun w e=>⟨u,rfl,?_⟩
      cases Option.some.inj (Option.some.inj ((List.getElem?_set_self len).symm.trans e))
      exact q.step S Q
    · have hij:i≠j:=fun z=>e (E.S.inj y x j hy (z▸hx))
      have ej:(setLoc ρ i v)[j]?=ρ[j]?:=List.getElem?_set_ne hij
      rw [ej]
      rcases hl y j hy with ⟨a,b⟩ | ⟨c,vo,a,hc',hcell,b⟩
      · exact .loc a (by rw [hm y e]; exact b.step S Q)
      · exact .cell c vo a hc' (hc y c vo hc' hcell e) (b.step S Q)
  · by_cases e:y=x
    · exact hv c (e▸hcy)
    · obtain ⟨vo,z⟩:=E.clive y c hcy
      exact ⟨vo,hc y c vo hcy z e⟩
theorem store_ok (hx:Γ.sl.lookup x=some i):Sim C (slotAt env x) ((evr Γ env ρ).and (vr v u)) (wp C A (storeName env x u)) (pur ()) fun _ _=>evr Γ env (setLoc ρ i v):=by
  intro σ I ⟨E,q⟩ Q k
  have E:EnvR C Γ env ρ σ.φ σ.h:=E
  obtain ⟨m,hm,hl⟩:=E.loc
  have fin:∀ {a:Addr} {h':Heap} {tk:Nat},slotAt env x a→Heap.SameBut a σ.h h'→(∃ o,h'.get? a=some o)→EnvR C Γ env (setLoc ρ i v) σ.φ h'→Q () (Sh.on σ.s h' tk):=fun {a h' tk} ha sb hv E' =>
    k _ _ (Aft.at (σ':=σ.at h' tk) (Le.only I (E.fr.sub fun _=>slot_ex) (fun b o n e=>(sb.2 b fun z=>n (z▸ha)).trans e) fun b o _ e=>by
      by_cases z:b=a
      · subst z; exact hv
      · exact ⟨o,(sb.2 b z).trans e⟩) E')
  rcases hl x i hx with ⟨hk,_⟩ | ⟨c,vo,hk,hc,hcell,_⟩
  · exact wpAny_storeName_local hk hm (fun h' hn sb=>fin (.inl ⟨rfl,hk⟩) sb (let ⟨o,_,_,ho,_⟩:=hn; ⟨o,ho⟩) (E.put hx hl sb (Ns_notSeq hm) hn (fun y e=>if_neg e) (fun o z=>.loc hk (by rw [if_pos rfl]; exact z))
      (fun y c vo _ z _=>z.sameBut sb (Ns_cell hm z).symm) (fun c hc=>let ⟨vo,z⟩:=E.clive x c hc; ⟨vo,z.sameBut sb (Ns_cell hm z).symm⟩) q)) (by rw [E.S.kind]; rfl)
  · exact wpAny_storeName_cell E.S.kind hk hc hcell fun h' hn sb=>fin (tk:=σ.s.toks) (.inr ⟨hc,hk⟩) sb (let ⟨o,ho,_⟩:=hn; ⟨o,ho⟩) (E.put hx hl sb (cell_notSeq hcell) (hm.sameBut sb (Ns_cell hm hcell)) (fun y _=>rfl) (fun o z=>.cell c _ hk hc hn z)
      (fun y c' vo hy z e=>z.sameBut sb fun w=>e (E.S.cinj y x c (w▸hy) hc)) (fun c' hc'=>⟨_,Option.some.inj (hc.symm.trans hc')▸hn⟩) q)
inductive It (g:Hp→Option (List V)) (φ:Phi) (h:Heap) (J:Addr) (k:Nat):Prop
  | range (a b:Int):g=(fun _=>some (rangeInts a b))→k≤(b - a).toNat→IsRangeIter h J (a + (k:Nat) * 1) (((b - a).toNat:Int) - (k:Nat)) 1→It g φ h J k
  | list (r:Nat) (p:Addr×Addr):g=listAt r→φ[r]?=some p→h.IsListIter J p.1 k→It g φ h J k
variable {g:Hp→Option (List V)} {J:Addr} {k:Nat}
theorem It.notSeq (x:It g φ h J k):¬ SeqOb h J:=by
  rintro ⟨o,ws,n,ho,hd⟩
  rcases x with ⟨a,b,_,_,z⟩ | ⟨r,p,_,_,z⟩
  · have z:h.get? J=_:=z
    cases Option.some.inj (ho.symm.trans z)
    exact nomatch hd
  · obtain ⟨o',ho',_,hd'⟩:=z
    cases Option.some.inj (ho.symm.trans ho')
    exact nomatch hd.symm.trans hd'
theorem It.live (x:It g φ h J k):∃ o,h.get? J=some o:=by
  rcases x with ⟨a,b,_,_,z⟩ | ⟨r,p,_,_,z⟩
  · exact ⟨_,z⟩
  · exact let ⟨o,ho,_⟩:=z; ⟨o,ho⟩
theorem It.step (x:It g φ h J k) (S:Step ex φ h φ' h') (ho:¬ Own φ J) (hx:¬ ex J):It g φ' h' J k:=by
  have hk:∀ o,h.get? J=some o→h'.get? J=some o:=fun o e=>S.keep J o e ho hx
  rcases x with ⟨a,b,e,l,z⟩ | ⟨r,p,e,l,z⟩
  · exact .range a b e l (hk _ z)
  · exact .list r p e (S.look l) (z.at hk)
theorem It.self {s:Shared} {Q:Value→Shared→Prop} {E:Value→Shared→Prop} (x:It g φ s.heap J k) (hQ:Q (.ref J) s):wpAny (model C.prog C.w) A (pyIter (.ref J)) Q E s:=by
  rcases x with ⟨a,b,_,_,z⟩ | ⟨r,p,_,_,z⟩
  · exact wpAny_pyIter_rangeiter z hQ
  · exact wpAny_pyIter_listiter z hQ
theorem rangeInts_get {a b:Int}:(rangeInts a b)[k]?=if k < (b - a).toNat then some (V.int (a + (k:Int))) else none:=by
  unfold rangeInts
  rw [List.getElem?_map]
  by_cases hk:k < (b - a).toNat
  · rw [if_pos hk,List.getElem?_range hk]; rfl
  · rw [if_neg hk,List.getElem?_eq_none (by rw [List.length_range]; exact Nat.not_lt.mp hk)]; rfl
theorem It.next {Q:Option Value→Shared→Prop} {E:Value→Shared→Prop} (hh:A.handled=none) (x:It g σ.φ σ.h J k) (I:Inv C σ) {vs:List V} (hg:g σ.H=some vs)
    (h1:∀ v u h' tk,vs[k]?=some v→VR σ.φ h' v u→It g σ.φ h' J (k + 1)→(∀ b o,b≠J→σ.h.get? b=some o→h'.get? b=some o)→Q (some u) (Sh.on σ.s h' tk))
    (h2:∀ h' tk,vs[k]?=none→(∀ b o,b≠J→σ.h.get? b=some o→h'.get? b=some o)→Q none (Sh.on σ.s h' tk)):wpAny (model C.prog C.w) A (pyNext (.ref J)) Q E σ.s:=by
  have ns:=x.notSeq
  have notJ:∀ {b:Addr},b≠J→b∉[J]:=fun n h=>n (List.mem_singleton.mp h)
  rcases x with ⟨a,b,e,l,z⟩ | ⟨r,p,e,l,z⟩
  · subst e
    cases hg
    have W:=Walks.range (prog:=C.prog) (w:=C.w) hh J a 1 (b - a).toNat
    by_cases hk:k < (b - a).toNat
    · refine W.item k σ.s Q E hk z fun v h' tk ⟨t,hv⟩ st hk'=>?_
      subst hv
      exact h1 (.int (a + (k:Int))) _ h' tk (by rw [rangeInts_get,if_pos hk]) (by rw [Int.mul_one]; exact VR.int) (.range a b rfl hk st) fun b o hb e=>hk' b o (notJ hb) e
    · cases Nat.le_antisymm l (Nat.not_lt.mp hk)
      exact W.done σ.s Q E z fun h' tk hk'=>h2 h' tk (by rw [rangeInts_get,if_neg hk]) fun b o hb e=>hk' b o (notJ hb) e
  · subst e
    have hg':ok (listAt r σ.H) fun ws=>ws=vs→σ.H[r]?=some (.list ws):=ok_listAt fun _ e _=>e
    rw [hg] at hg'
    obtain ⟨p',hp',ws,n,hl,_,_,q⟩:=I.hr.obj.get' (hg' rfl)
    cases Option.some.inj (l.symm.trans hp')
    rcases hv:vs[k]? with _ | v
    · exact wpAny_pyNext_list_end hh z hl.isList (Array.getElem?_eq_none_iff.mpr (arr_size q▸List.getElem?_eq_none_iff.mp hv)) fun h' he=>h2 h' σ.s.toks hv fun b o hb e=>he b o hb e
    · obtain ⟨u,hu,qu⟩:=q.get' hv
      exact wpAny_pyNext_list_item z hl.isList (x:=u) (Array.getElem?_toList.symm.trans hu) fun h' hit sb=>h1 v u h' σ.s.toks hv (qu.step (same_step sb) fun b hb e=>ns (e▸hb)) (.list r p rfl l hit) fun b o hb e=>(sb.2 b hb).trans e
end
end Mine
end
section
open PySem PySem.W PySem.Calls PyProof.Rows
namespace Mine
set_option tactic.hygienic true in
theorem nameCall_of {e:PySem.Expr}:ok (nameCall e) fun p=>∃ q pos,e=.Call (.Name p.1 q) p.2 [] pos:=by
  cases e<;>try trivial
  rename_i f args kws pos
  rcases kws with _ | _
  · cases f<;>first | exact ⟨_,_,rfl⟩ | trivial
  · trivial
section
variable {C:Ctx} {d m:Nat} {A:Around} {ex:Addr→Prop} {Γ:Cx} {env:Env} {ρ:En} {t:Cx→PySem.Expr→X} {pos p:Pos} {σ₀:Wo} {v:V} {u:Value} {g:Hp→Option (List V)} {J:Addr} {k:Nat} {iter:PySem.Expr} {es:List PySem.Expr}
noncomputable def since (σ₀:Wo):Mp C:=⟨fun σ=>∀ a,σ.h.get? a=none→σ₀.h.get? a=none,fun {σ σ'} L h a e=>h a (by
  rcases z:σ.h.get? a with _ | o
  · rfl
  · obtain ⟨o',z'⟩:=L.live a o z
    exact nS (e.symm.trans z'))⟩
structure ItM (C:Ctx) (σ₀:Wo) (g:Hp→Option (List V)) (k:Nat) (J:Addr) (σ:Wo):Prop where
  it:It g σ.φ σ.h J k
  new:σ₀.h.get? J=none
  own:¬ Own σ.φ J
  base:C.h₀.get? J=none
theorem ItM.step {σ σ':Wo} (x:ItM C σ₀ g k J σ) (L:Le C ex σ σ') (hx:¬ ex J):ItM C σ₀ g k J σ':=⟨x.it.step L.st x.own hx,x.new,let ⟨_,e⟩:=x.it.live; L.st.notOwn e x.own,x.base⟩
noncomputable def itm (σ₀:Wo) (g:Hp→Option (List V)) (it:Value):Mp C:=⟨fun σ=>∃ J,it=.ref J∧ItM C σ₀ g 0 J σ,fun L ⟨J,e,x⟩=>⟨J,e,x.step L id⟩⟩
theorem ItM.mk' {σ:Wo} {o:Obj} {tk:Nat} (I:Inv C σ) (h:(since (C:=C) σ₀).p σ) (x:It g σ.φ (σ.h.push o) σ.h.objs.size 0):Aft C ex σ σ.H (itm (C:=C) σ₀ g (.ref σ.h.objs.size)).p (Sh.on σ.s (σ.h.push o) tk) :=
  Aft.at (σ':=σ.at (σ.h.push o) tk) (Le.grow I push_keeps) ⟨_,rfl,x,h _ fresh_get,I.notOwn fresh_get,I.notBase fresh_get⟩
theorem iter_list:Sim C ex ((since σ₀).and (vr v u)) (wp C A (pyIter u)) (srcR false [v]) (itm σ₀):=by
  intro σ I ⟨h,q⟩
  have q:VR σ.φ σ.h v u:=q
  refine okR_lft ?_
  rcases v with _ | _ | _ | _ | _ | _ | r<;>try trivial
  refine ok_map (ok_listAt fun vs e=>?_)
  have q':=q
  revert q'
  refine I.list e q ?_
  intro p ws n x q' Q k
  exact wpAny_pyIter_list x.lst.isList (k _ _ (ItM.mk' (tk:=σ.s.toks) I h (.list r p rfl x.at_ ⟨_,Heap.get?_push_size _ rfl,rfl,rfl⟩)))
theorem iter_range {a b:Int} {r:Addr} {i j l:Tok} {σ:Wo} {Q:Value→Shared→Prop} (I:Inv C σ) (h:(since (C:=C) σ₀).p σ) (hr:IsRange σ.h r a b 1 i j l) (ha:small a=true) (hb:small b=true)
    (k:∀ u s',Aft C ex σ σ.H (itm (C:=C) σ₀ (fun _=>some (rangeInts a b)) u).p s'→Q u s'):wpAny (model C.prog C.w) A (pyIter (.ref r)) Q NE σ.s:=by
  rw [small_iff] at ha hb
  refine wpAny_pyIter_range hr (small_one (by lia) (by simp_all) (by lia) (by lia)) ?_
  refine k _ _ (ItM.mk' (tk:=σ.s.toks) I h (.range a b rfl (Nat.zero_le _) ?_))
  have e:Builtin.Range.rangeSize a b 1=((b - a).toNat:Int) - ((0:Nat):Int):=by
    rw [rangeSize_one]
    split<;>lia
  rw [e,show a + ((0:Nat):Int) * 1=a by simp]
  exact Heap.get?_push_size _ rfl
theorem iter_ranges {vs:List V} {us:List Value}:Sim C no ((since σ₀).and (vrs vs us)) (fun Q s=>wpAny (model C.prog C.w) A (call (.type "range") us []) (fun xv s₁=>wpAny (model C.prog C.w) A (pyIter xv) Q NE s₁) NE s) (srcR true vs) (itm σ₀):=by
  intro σ I ⟨h,q'⟩
  have q:All2 (VR σ.φ σ.h) vs us:=q'
  clear q'
  refine okR_lft ?_
  have grow:∀ {o:Obj} {tk:Nat},Le C no σ (σ.at (σ.h.push o) tk):=Le.grow I push_keeps
  cases q with
  | nil=>trivial
  | @cons v u vs us q1 q =>
    cases q with
    | nil =>
      exact ok_bind (ok_int (K:=fun b u=>ok (cond (small b) (some fun _=>some (rangeInts 0 b)) none) fun g=>∀ Q:Value→Shared→Prop,(∀ a s',Aft C no σ σ.H (itm (C:=C) σ₀ g a).p s'→Q a s')→wpAny (model C.prog C.w) A (call (.type "range") [u] []) (fun xv s₁=>wpAny (model C.prog C.w) A (pyIter xv) Q NE s₁) NE σ.s) q1 fun b i _=>ok_cond fun hb Q k =>
        call_range_1 (iter_range (σ:=σ.at _ _) (ex:=no) grow.inv ((since σ₀).up grow h) (IsRange.new _ _ _ _ _ _ _) (by decide) hb fun u s' z=>k _ _ (z.from grow)))
    | @cons v' u' vs us q2 q =>
      cases q with
      | nil =>
        exact ok_bind (ok_int (K:=fun a u=>ok ((intO v').bind fun b=>cond (small a && small b) (some fun _=>some (rangeInts a b)) none) fun g=>∀ Q:Value→Shared→Prop,(∀ a s',Aft C no σ σ.H (itm (C:=C) σ₀ g a).p s'→Q a s')→wpAny (model C.prog C.w) A (call (.type "range") [u,u'] []) (fun xv s₁=>wpAny (model C.prog C.w) A (pyIter xv) Q NE s₁) NE σ.s) q1 fun a i _ =>
          ok_bind (ok_int (K:=fun b u'=>ok (cond (small a && small b) (some fun _=>some (rangeInts a b)) none) fun g=>∀ Q:Value→Shared→Prop,(∀ a s',Aft C no σ σ.H (itm (C:=C) σ₀ g a).p s'→Q a s')→wpAny (model C.prog C.w) A (call (.type "range") [.int a i,u'] []) (fun xv s₁=>wpAny (model C.prog C.w) A (pyIter xv) Q NE s₁) NE σ.s) q2 fun b j _=>ok_cond fun hb Q k =>
            call_range_2 (iter_range (σ:=σ.at _ _) (ex:=no) grow.inv ((since σ₀).up grow h) (IsRange.new _ _ _ _ _ _ _) (and_tt hb).1 (and_tt hb).2 fun u s' z=>k _ _ (z.from grow))))
      | cons=>trivial
theorem evs1 {δ:Type} {f:X→En→Rn V} {x:X} {G:List V→Rn δ}:bnd (evs f ρ [x]) G=bnd (f x ρ) fun v=>G [v]:=by
  funext H
  show bnd (bnd (f x ρ) fun v=>bnd (pur []) fun vs=>pur (v::vs)) G H=_
  rw [bnd_assoc]
  rfl
noncomputable def srcW (C:Ctx) (A:Around) (env:Env) (iter:PySem.Expr):Tr Value:=fun Q s=>wpAny (model C.prog C.w) A (eval iter env) (fun xv s₁=>wpAny (model C.prog C.w) A (pyIter xv) Q NE s₁) NE s
theorem src_ok (St:Stat C) (ih:SX C d m t) (c:Cf d A):Sim C no ((evr Γ env ρ).and (since σ₀)) (srcW C A env iter) (bnd (evs (runX C d m) ρ (trSrc C.W Γ (t Γ) iter).2) (srcR (trSrc C.W Γ (t Γ) iter).1)) (itm σ₀):=by
  have plain:Sim C no ((evr Γ env ρ).and (since σ₀)) (srcW C A env iter) (bnd (evs (runX C d m) ρ [t Γ iter]) (srcR false)) (itm σ₀):=by
    refine Sim.eq ?_ evs1
    exact Sim.bind (ih Γ env A ρ iter c).l fun v u=>Sim.wk iter_list fun σ p=>⟨p.1.2,p.2⟩
  unfold trSrc
  rcases hc:nameCall iter with _ | ⟨x,es⟩
  · exact plain
  · obtain ⟨q,pos,e⟩:∃ q pos,iter=.Call (.Name x q) es [] pos:=by
      have z:=nameCall_of (e:=iter)
      rw [hc] at z; exact z
    rcases hs:Γ.sl.lookup x with _ | i
    · dsimp only; rw [hs]
      refine glob_of (K:=fun gv=>Sim C no ((evr Γ env ρ).and (since σ₀)) (srcW C A env iter) (bnd (evs (runX C d m) ρ (match gv with | some (.bi n)=>cond (n == bRange && !(x == ("__debug__":Str)) && plainArgs es) (true,es.map (t Γ)) (false,[t Γ iter]) | _=>(false,[t Γ iter])).2) (srcR (match gv with | some (.bi n)=>cond (n == bRange && !(x == ("__debug__":Str)) && plainArgs es) (true,es.map (t Γ)) (false,[t Γ iter]) | _=>(false,[t Γ iter])).1)) (itm σ₀)) plain fun gv hn hg=>?_
      rcases gv with _ | _ | _ | b
      · exact plain
      · exact plain
      · exact plain
      · rcases hb:b == bRange && !(x == ("__debug__":Str)) && plainArgs es with _ | _
        · dsimp only; rw [hb]; exact plain
        · dsimp only; rw [hb]
          have ⟨h1,hpl⟩:=and_tt hb
          have ⟨h1,hd⟩:=and_tt h1
          have hd:(x == ("__debug__":Str))=false:=by rcases e:x == ("__debug__":Str) with _ | _; rfl; rw [e] at hd; exact nB hd
          obtain ⟨mg,mb,m1,m2,m3⟩:=St.glob
          have hu:=m3 x _ hg
          have hu:mg x=none∧mb x=some (biV b):=hu
          rw [biV_of h1] at hu
          subst e
          refine Sim.ruleI (fun σ I p Q z=>wpAny_Call_Name_kw (name_glob I p.1 hd hn m1 m2 (.inr hu) z)) ?_
          exact call_gen (first:=[]) (τ:=fun Q xv s₁=>wpAny (model C.prog C.w) A (pyIter xv) Q NE s₁) St (fun _ _=>⟨.machine,.inr (.inl rfl),Looks.of_pure rfl⟩) ih c hpl (fun _=>And.left) fun vs us=>Sim.wk iter_ranges fun σ p=>⟨p.1.2,p.2⟩
    · dsimp only; rw [hs]; exact plain
end
end Mine
end
section
open PySem PySem.W PySem.Calls PyProof.Rows
namespace Mine
theorem lookup_at {β:Type} {x y:Str} {b:β} {l:List (Str×β)} {K:Option β→Prop} (h1:x=y→K (some b)) (h2:x≠y→K (l.lookup x)):K (((y,b)::l).lookup x):=by
  rw [List.lookup_cons]
  rcases e:x == y with _ | _
  · exact h2 (ne_of_beq_false e)
  · exact h1 (eq_of_beq e)
theorem clo_loop {env:Env} (l:List (Str×NameKind)):∀ acc:List (Str×Addr),(∀ p,p∈l→p.2=.free→∃ c,env.cells.lookup p.1=some c) →
    ∃ cl,(forIn l acc (fun (x:Str×NameKind) (cs:List (Str×Addr))=>(match x with
      | (name,kind)=>if kind == .free then do
          let a ← cellOf env name
          pure (ForInStep.yield ((name,a)::cs))
        else pure (ForInStep.yield cs):Sem (ForInStep (List (Str×Addr))))):Sem (List (Str×Addr)))=pure cl ∧
      (∀ x c,cl.lookup x=some c→(env.cells.lookup x=some c∧(x,NameKind.free)∈l)∨acc.lookup x=some c) ∧
      (∀ x,(acc.lookup x=env.cells.lookup x∨(x,NameKind.free)∈l)→cl.lookup x=env.cells.lookup x):=by
  induction l with
  | nil=>exact fun acc _=>⟨acc,List.forIn_nil,fun x c e=>.inr e,fun x hx=>hx.elim id nofun⟩
  | cons p r ih =>
    obtain ⟨nm,kd⟩:=p
    intro acc hl
    rw [List.forIn_cons]
    by_cases hk:kd=.free
    · subst hk
      obtain ⟨c,hcl⟩:=hl (nm,.free) (.head _) rfl
      obtain ⟨cl,e,a,b⟩:=ih ((nm,c)::acc) fun p hp=>hl p (.tail _ hp)
      have hcell:cellOf env nm=pure c:=by unfold cellOf; rw [hcl]
      refine ⟨cl,?_,fun x c' e'=>?_,fun x hx=>b x ?_⟩
      · show ((do let a ← cellOf env nm; pure (ForInStep.yield ((nm,a)::acc))) >>= _)=_
        rw [hcell]; exact e
      · rcases a x c' e' with ⟨q1,q2⟩ | q
        · exact .inl ⟨q1,.tail _ q2⟩
        · revert q
          exact lookup_at (x:=x) (y:=nm) (b:=c) (l:=acc) (K:=fun o=>o=some c'→(env.cells.lookup x=some c'∧(x,NameKind.free)∈(nm,.free)::r)∨acc.lookup x=some c') (fun z q=>by subst z; exact .inl ⟨hcl.trans q,.head _⟩) fun _=>.inr
      · refine lookup_at (x:=x) (y:=nm) (b:=c) (l:=acc) (K:=fun o=>o=env.cells.lookup x∨(x,NameKind.free)∈r) (fun z=>by subst z; exact .inl hcl.symm) fun ne=>?_
        rcases hx with q | q
        · exact .inl q
        · exact (List.mem_cons.mp q).elim (fun z=>absurd (Prod.mk.inj z).1 ne) .inr
    · obtain ⟨cl,e,a,b⟩:=ih acc fun p hp=>hl p (.tail _ hp)
      refine ⟨cl,?_,fun x c' e'=>(a x c' e').imp_left fun q=>⟨q.1,.tail _ q.2⟩,fun x hx=>b x (hx.imp_right fun q=>(List.mem_cons.mp q).elim (fun z=>absurd (Prod.mk.inj z).2.symm hk) id)⟩
      show ((if (kd == .free)=true then _ else _) >>= _)=_
      rw [if_neg fun z=>hk (eq_of_beq z)]; exact e
theorem closure_eq {env:Env} {scope:Scope} (hc:∀ p,p∈scope.names→p.2=.free→∃ c,env.cells.lookup p.1=some c) :
    ∃ cl,closureFor scope env=pure cl∧(∀ x c,cl.lookup x=some c→env.cells.lookup x=some c∧(x,NameKind.free)∈scope.names)∧(∀ x,(x,NameKind.free)∈scope.names→cl.lookup x=env.cells.lookup x):=by
  obtain ⟨cl,e,a,b⟩:=clo_loop (env:=env) scope.names [] hc
  refine ⟨cl,?_,fun x c e'=>(a x c e').elim id nofun,fun x hx=>b x (.inr hx)⟩
  unfold closureFor
  rw [← e]
  simp only [bind_pure]
noncomputable abbrev cell0:Obj:={ cls:=.type "cell",data:=.cell none }
theorem lookup_nodup {β:Type} {x:Str} {b:β} {l:List (Str×β)} (nd:(l.map (·.1)).Nodup) (hm:(x,b)∈l):l.lookup x=some b:=by
  induction l with
  | nil=>exact nomatch hm
  | cons p r ih =>
    obtain ⟨y,c⟩:=p
    have nd:=List.nodup_cons.mp nd
    rcases List.mem_cons.mp hm with e | hm'
    · cases e; exact lookup_at (K:=fun o=>o=some b) (fun _=>rfl) fun ne=>absurd rfl ne
    · exact lookup_at (K:=fun o=>o=some b) (fun e=>absurd (List.mem_map.mpr ⟨_,hm',rfl⟩) (by subst e; exact nd.1)) fun _=>ih nd.2 hm'
theorem cells_one {x:Str} (names:List (Str×NameKind)):∀ {m:Nat} {acc:List (Str×Addr)} {h:Heap},(∀ p,p∈names→p.2=.cell→p.1=x)→(names.map (·.1)).Nodup →
    (names.lookup x=some .cell→cellsFrom m names acc=(x,m)::acc∧pushCells h names=h.push cell0)∧(names.lookup x≠some .cell→cellsFrom m names acc=acc∧pushCells h names=h):=by
  induction names with
  | nil=>exact fun _ _=>⟨nofun,fun _=>⟨rfl,rfl⟩⟩
  | cons p r ih =>
    obtain ⟨y,kd⟩:=p
    intro m acc h hp nd
    have nd:=List.nodup_cons.mp nd
    have no:y=x→∀ k,r.lookup x≠some k:=fun e k z=>nd.1 (e▸List.mem_map.mpr ⟨_,mem_of_lookup z,rfl⟩)
    have hp':∀ p,p∈r→p.2=.cell→p.1=x:=fun p h=>hp p (.tail _ h)
    unfold cellsFrom pushCells
    by_cases hk:kd=.cell
    · subst hk
      have hy:y=x:=hp (y,.cell) (.head _) rfl
      rw [if_pos (by rfl),if_pos (by rfl)]
      obtain ⟨a,b⟩:=(ih (m:=m + 1) (acc:=(y,m)::acc) (h:=h.push cell0) hp' nd.2).2 (no hy _)
      subst hy
      exact ⟨fun _=>⟨a,b⟩,fun e=>absurd (lookup_at (K:=fun o=>o=some NameKind.cell) (fun _=>rfl) fun ne=>absurd rfl ne) e⟩
    · have hkb:¬ ((kd == NameKind.cell)=true):=fun z=>hk (eq_of_beq z)
      rw [if_neg hkb,if_neg hkb]
      have ih:=ih (m:=m) (acc:=acc) (h:=h) hp' nd.2
      by_cases hxy:x=y
      · refine ⟨fun e=>?_,fun _=>ih.2 (no hxy.symm _)⟩
        revert e
        exact lookup_at (K:=fun o=>o=some NameKind.cell→_) (fun _ e=>absurd (Option.some.inj e) hk) fun ne=>absurd hxy ne
      · rw [show List.lookup x ((y,kd)::r)=r.lookup x from lookup_at (K:=fun o=>o=r.lookup x) (fun e=>absurd e hxy) fun _=>rfl]; exact ih
noncomputable def hC (h:Heap) (sc:Scope):Heap:=pushCells (h.push { cls:=.type "dict",data:=.dict #[] }) sc.names
theorem newEnv_comp {C:Ctx} {A:Around} {s:Shared} {env:Env} {scope:Scope} {cl:List (Str×Addr)} {E:Value→Shared→Prop} {Q:Env→Shared→Prop}
    (hQ:Q (newEnv scope s.heap.objs.size env.globals (cellsFrom (s.heap.objs.size + 1) scope.names cl) env.qual none .none (some env) builtinsNs) (Sh.on s (hC s.heap scope) s.toks)) :
    wpAny (model C.prog C.w) A (newFunctionEnv scope env.globals cl [] env.qual none .none (some env)) Q E s:=by
  simp only [newFunctionEnv,Option.isSome_some,if_true]
  refine wpAny_bind (wpAny_alloc ?_)
  refine wpAny_bind (wpAny_layCells _ (fun name kind cells=>by rcases hkc:kind == NameKind.cell with _ | _<;>simp [hkc]) _ _ _ _ ?_)
  rw [show ({ s with heap:=s.heap.push { cls:=.type "dict",data:=.dict #[] } }:Shared).heap.objs.size=s.heap.objs.size + 1 from Heap.size_push ..,List.forIn_nil]
  exact wpAny_bind (wpAny_pure (wpAny_pure hQ))
theorem lookup_map_kind (f:NameKind→NameKind) {l:List (Str×NameKind)} {x:Str}:(l.map fun p=>(p.1,f p.2)).lookup x=(l.lookup x).map f:=by
  induction l with
  | nil=>rfl
  | cons p r ih =>
    rw [List.map_cons,List.lookup_cons,List.lookup_cons,ih]
    rcases x == p.1 with _ | _<;>rfl
theorem lookup_filter {β:Type} (P:Str→Bool) {l:List (Str×β)} {x:Str}:(l.filter fun p=>P p.1).lookup x=cond (P x) (l.lookup x) none:=by
  induction l with
  | nil=>rcases P x with _ | _<;>rfl
  | cons p r ih =>
    obtain ⟨y,c⟩:=p
    rw [List.filter_cons]
    by_cases hxy:x=y
    · subst hxy
      rcases e:P x with _ | _
      · rw [e] at ih; exact ih
      · show List.lookup x ((x,c)::_)=List.lookup x ((x,c)::r)
        rw [List.lookup_cons,List.lookup_cons,beq_self_eq_true]
    · have skip:∀ l:List (Str×β),List.lookup x ((y,c)::l)=l.lookup x:=fun l=>by rw [List.lookup_cons,beq_eq_false_iff_ne.mpr hxy]
      rw [skip]
      rcases e:P y with _ | _
      · exact ih
      · exact (skip _).trans ih
end Mine
end
section
open PySem PySem.W PySem.Calls PyProof.Rows
namespace Mine
section
variable {C:Ctx} {d m:Nat} {A:Around} {ex:Addr→Prop} {Γ:Cx} {env:Env} {ρ:En} {t:Cx→PySem.Expr→X} {pos px:Pos} {σ σ₀:Wo} {v:V} {u:Value} {g:Hp→Option (List V)} {J:Addr} {x:Str} {sc:Scope}
structure CompOk (Γ:Cx) (x:Str) (sc:Scope):Prop where
  kind:sc.kind=.function
  own:sc.names.lookup x=some .local∨sc.names.lookup x=some .cell
  nd:(sc.names.map (·.1)).Nodup
  cell:∀ p,p∈sc.names→p.2=.cell→p.1=x
  free:∀ p,p∈sc.names→p.2=.free→Γ.names.lookup p.1=some .cell∧(Γ.sl.lookup p.1).isSome=true
theorem compOk_iff (e:compOk Γ x sc=true):CompOk Γ x sc:=by
  unfold compOk at e
  simp only [Bool.and_eq_true,Bool.or_eq_true,beq_iff_eq,decide_eq_true_eq,List.all_eq_true] at e
  obtain ⟨⟨⟨⟨⟨⟨a,b⟩,c⟩,d⟩,nd⟩,_⟩,_⟩:=e
  have no:∀ {k k':NameKind},k≠k'→∀ {p:Str×NameKind},p.2=k→p.2=k'→False:=fun n _ h h'=>n (h.symm.trans h')
  refine ⟨a,b,nd,fun p hp hk=>?_,fun p hp hk=>?_⟩
  · rcases c p hp with ((q | ⟨_,q⟩) | q) | ⟨⟨q,_⟩,_⟩
    · exact q
    · exact (no (by decide) q hk).elim
    · exact (no (by decide) q hk).elim
    · exact (no (by decide) q hk).elim
  · rcases c p hp with ((q | ⟨_,q⟩) | q) | ⟨⟨q,r⟩,t⟩
    · have:=lookup_nodup nd (x:=p.1) (b:=p.2) hp
      rw [q,hk] at this
      rcases b with b | b<;>exact nomatch this.symm.trans b
    · exact (no (by decide) q hk).elim
    · exact (no (by decide) q hk).elim
    · exact ⟨r,t⟩
noncomputable def envOf (sc:Scope) (cl:List (Str×Addr)) (a:Addr) (env:Env):Env :=
  { newEnv sc a env.globals (cellsFrom (a + 1) sc.names cl) env.qual none .none (some env) builtinsNs with scope:=relabel sc env }
theorem cells_of (O:CompOk Γ x sc) {φ:Phi} {h:Heap} (E:EnvR C Γ env ρ φ h):∀ p,p∈sc.names→p.2=.free→∃ c,env.cells.lookup p.1=some c:=by
  intro p hp hk
  obtain ⟨a,b⟩:=O.free p hp hk
  obtain ⟨i,hi⟩:=Option.isSome_iff_exists.mp b
  have hc:=E.S.cnames _ a
  obtain ⟨m,_,hl⟩:=E.loc
  rcases hl p.1 i hi with ⟨q,_⟩ | ⟨c,vo,_,q,_⟩
  · exact nomatch hc.symm.trans q
  · exact ⟨c,q⟩
theorem names_eq (O:CompOk Γ x sc) (S:EnvS C Γ env):(relabel sc env).names=(compCx Γ x sc).names:=by
  show sc.names.map _=sc.names.map _
  refine List.map_congr_left fun p hp=>?_
  obtain ⟨y,kd⟩:=p
  by_cases hk:kd=.free
  · subst hk
    have:=S.cnames _ (O.free _ hp rfl).1
    simp [this,S.kind]
  · have hkb:(kd == NameKind.free)=false:=beq_eq_false_iff_ne.mpr hk
    simp [hkb]
theorem hC_keeps {h:Heap}:∀ a o,h.get? a=some o→(hC h sc).get? a=some o:=fun a o e=>pushCells_keeps _ _ a o (Heap.get?_push_of_some _ e)
theorem comp_cells (O:CompOk Γ x sc) {h:Heap} {cl:List (Str×Addr)} (c1:∀ y c,cl.lookup y=some c→env.cells.lookup y=some c∧(y,NameKind.free)∈sc.names) {y:Str} {c:Addr} (hc:(envOf sc cl h.objs.size env).cells.lookup y=some c) :
    (cl.lookup y=some c∧env.cells.lookup y=some c)∨(y=x∧c=h.objs.size + 1∧(hC h sc).IsCell c none):=by
  obtain ⟨cA,cB⟩:=cells_one (x:=x) (m:=h.objs.size + 1) (acc:=cl) (h:=h.push { cls:=.type "dict",data:=.dict #[] }) sc.names O.cell O.nd
  have hc:(cellsFrom (h.objs.size + 1) sc.names cl).lookup y=some c:=hc
  rcases O.own with o | o
  · rw [(cB fun e=>nomatch o.symm.trans e).1] at hc
    exact .inl ⟨hc,(c1 y c hc).1⟩
  · rw [(cA o).1] at hc
    revert hc
    refine lookup_at (x:=y) (y:=x) (K:=fun o=>o=some c→_) (fun e hc=>.inr ⟨e,(Option.some.inj hc).symm,?_⟩) fun _ hc=>.inl ⟨hc,(c1 y c hc).1⟩
    unfold hC
    rw [(cA o).2,← Option.some.inj hc]
    have:=Heap.get?_push_size (h.push { cls:=.type "dict",data:=.dict #[] }) (o:=cell0) rfl
    rw [Heap.size_push] at this
    exact ⟨_,this,rfl⟩
theorem comp_slot {y:Str} {i:Nat} (hy:(compCx Γ x sc).sl.lookup y=some i):(y=x∧i=Γ.n)∨(y≠x∧Γ.sl.lookup y=some i∧sc.names.lookup y=some .free):=by
  have hy:List.lookup y ((x,Γ.n)::Γ.sl.filter (fun p=>(fun z=>z != x && sc.names.lookup z == some .free) p.1))=some i:=hy
  revert hy
  refine lookup_at (K:=fun o=>o=some i→_) (fun e hy=>.inl ⟨e,(Option.some.inj hy).symm⟩) fun ne hy=>?_
  have hy:=(lookup_filter (fun z=>z != x && sc.names.lookup z == some .free)).symm.trans hy
  rcases hp:(y != x && sc.names.lookup y == some .free) with _ | _
  · rw [hp] at hy; exact nS hy
  · rw [hp] at hy
    exact .inr ⟨ne,hy,eq_of_beq (and_tt hp).2⟩
structure CompE (C:Ctx) (Γ:Cx) (x:Str) (sc:Scope) (env cenv:Env) (ρ:En) (σ:Wo):Prop where
  fr:EnvR C (compCx Γ x sc) cenv (ρ++[none]) σ.φ (hC σ.h sc)
  slot:∀ a,slotAt cenv x a→σ.h.get? a=none
  cells:∀ y c,cenv.cells.lookup y=some c→env.cells.lookup y=some c∨σ.h.get? c=none
theorem comp_env (O:CompOk Γ x sc) {cl:List (Str×Addr)} (c1:∀ y c,cl.lookup y=some c→env.cells.lookup y=some c∧(y,NameKind.free)∈sc.names) (c2:∀ y,(y,NameKind.free)∈sc.names→cl.lookup y=env.cells.lookup y)
    (E:EnvR C Γ env ρ σ.φ σ.h) (I:Inv C σ):CompE C Γ x sc env (envOf sc cl σ.h.objs.size env) ρ σ:=by
  have hns:(hC σ.h sc).Ns σ.h.objs.size (fun _=>none):=(Heap.Ns.new σ.h (.type "dict")).keeps (pushCells_keeps _ _)
  have dC:σ.h.get? σ.h.objs.size=none:=fresh_get
  have dD:σ.h.get? (σ.h.objs.size + 1)=none:=Heap.get?_none_of_le (Nat.le_succ _)
  have E':=E.step (φ':=σ.φ) (h':=hC σ.h sc) (Step.of_keeps hC_keeps)
  have cells:=fun {y c}=>comp_cells (y:=y) (c:=c) (h:=σ.h) O c1
  have kof:∀ y,(envOf sc cl σ.h.objs.size env).kindOf y=(compCx Γ x sc).names.lookup y:=fun y=>by
    show (relabel sc env).names.lookup y=_
    rw [names_eq O E.S]
  have kmap:∀ y k,sc.names.lookup y=some k→(envOf sc cl σ.h.objs.size env).kindOf y=some (if k == .free then .cell else k):=fun y k e=>by
    rw [kof]
    have z:(compCx Γ x sc).names=sc.names.map fun p=>(p.1,(fun kd=>if kd == NameKind.free then NameKind.cell else kd) p.2):=List.map_congr_left fun p _=>by
      by_cases hp:p.2 == .free<;>simp [hp]
    rw [z]
    exact (lookup_map_kind (fun kd=>if kd == NameKind.free then NameKind.cell else kd)).trans (congrArg (Option.map _) e)
  have dead:∀ {y c},(envOf sc cl σ.h.objs.size env).cells.lookup y=some c→env.cells.lookup y=some c∨σ.h.get? c=none:=fun hc=>(cells hc).elim (fun q=>.inl q.2) fun q=>.inr (q.2.1▸dD)
  have live:∀ {y c},env.cells.lookup y=some c→σ.h.get? c≠none:=fun hc z=>by
    obtain ⟨vo,o,ho,_⟩:=E.clive _ _ hc
    exact nS (z.symm.trans ho)
  obtain ⟨m,hm,hl⟩:=E'.loc
  refine ⟨⟨⟨O.kind,E.S.glob,E.S.blt,fun y hy=>(kof y).trans hy,fun y hy=>(kof y).trans hy,fun y i hy=>?_,fun y z i hy hz=>?_,fun y z c hy hz=>?_,I.notBase dC,fun y c hc=>?_⟩,?_,⟨fun _=>none,hns,fun y i hy=>?_⟩,I.notOwn dC,fun y c hc=>?_,fun y c hc=>?_⟩,?_,fun y c=>dead⟩
  · show i < Γ.n + 1
    rcases comp_slot hy with ⟨_,rfl⟩ | ⟨_,q,_⟩
    · exact Nat.lt_succ_self _
    · exact Nat.lt_succ_of_lt (E.S.lt y i q)
  · rcases comp_slot hy with ⟨a,b⟩ | ⟨_,a,_⟩<;>rcases comp_slot hz with ⟨c,d⟩ | ⟨_,c,_⟩
    · exact a.trans c.symm
    · exact absurd b (Nat.ne_of_lt (E.S.lt z i c))
    · exact absurd d (Nat.ne_of_lt (E.S.lt y i a))
    · exact E.S.inj y z i a c
  · rcases cells hy with ⟨_,a⟩ | ⟨a,b,_⟩<;>rcases cells hz with ⟨_,d⟩ | ⟨d,f,_⟩
    · exact E.S.cinj y z c a d
    · exact absurd (f▸dD) (live a)
    · exact absurd (b▸dD) (live d)
    · exact a.trans d.symm
  · exact (dead hc).elim (E.S.cbase y c) I.notBase
  · show (ρ++[none]).length=Γ.n + 1
    rw [List.length_append,E.len]; rfl
  · rcases comp_slot hy with ⟨rfl,rfl⟩ | ⟨hne,q,hf⟩
    · have hold:∀ w,Hold σ.φ (hC σ.h sc) (ρ++[none])[Γ.n]? w:=fun w v e=>by
        rw [← E.len,List.getElem?_concat_length] at e; exact nomatch e
      rcases O.own with o | o
      · exact .loc (kmap y _ o) (hold _)
      · have hc:(envOf sc cl σ.h.objs.size env).cells.lookup y=some (σ.h.objs.size + 1):=by
          show (cellsFrom (σ.h.objs.size + 1) sc.names cl).lookup y=_
          rw [((cells_one (x:=y) (m:=σ.h.objs.size + 1) (acc:=cl) (h:=σ.h) sc.names O.cell O.nd).1 o).1]
          exact lookup_at (K:=fun o=>o=some (σ.h.objs.size + 1)) (fun _=>rfl) fun ne=>absurd rfl ne
        refine .cell _ none (kmap y _ o) hc ?_ (hold _)
        rcases cells hc with ⟨_,q2⟩ | ⟨_,_,q⟩
        · exact absurd dD (live q2)
        · exact q
    · have hmem:=mem_of_lookup hf
      have hkc:=E.S.cnames _ (O.free _ hmem rfl).1
      rcases hl y i q with ⟨a,_⟩ | ⟨c,vo,a,hc,hcell,b⟩
      · exact nomatch hkc.symm.trans a
      · refine .cell c vo (kmap y _ hf) ?_ hcell fun v e=>b v ?_
        · show (cellsFrom (σ.h.objs.size + 1) sc.names cl).lookup y=_
          obtain ⟨cA,cB⟩:=cells_one (x:=x) (m:=σ.h.objs.size + 1) (acc:=cl) (h:=σ.h) sc.names O.cell O.nd
          rcases O.own with o | o
          · rw [(cB fun e=>nomatch o.symm.trans e).1,c2 y hmem,hc]
          · rw [(cA o).1]
            exact lookup_at (K:=fun o=>o=some c) (fun e=>absurd e hne) fun _=>(c2 y hmem).trans hc
        · rw [List.getElem?_append_left (by rw [E.len]; exact E.S.lt y i q)] at e
          exact e
  · exact (dead hc).elim (E.cown y c) I.notOwn
  · rcases cells hc with ⟨_,q⟩ | ⟨_,_,q⟩
    · exact E'.clive y c q
    · exact ⟨none,q⟩
  · rintro a (⟨rfl,_⟩ | ⟨hc,hkx⟩)
    · exact dC
    · rcases cells hc with ⟨q,_⟩ | ⟨_,rfl,_⟩
      · have:=lookup_nodup O.nd (c1 x a q).2
        rcases O.own with o | o<;>exact nomatch this.symm.trans o
      · exact dD
end
end Mine
end
section
open PySem PySem.W PySem.Calls PyProof.Rows
namespace Mine
section
variable {C:Ctx} {d m:Nat} {A:Around} {ex:Addr→Prop} {Γ:Cx} {env cenv:Env} {ρ:En} {t:Cx→PySem.Expr→X} {pos px:Pos} {σ σ' σ₀:Wo} {v:V} {u:Value} {g:Hp→Option (List V)} {J:Addr} {x:Str} {sc:Scope} {elt iter:PySem.Expr} {ifs:List PySem.Expr} {cond:Option X} {r:Nat} {p:Addr×Addr}
theorem loose {α:Type} {w:Sem α} {Q Q':α→Shared→Prop} {E:Value→Shared→Prop} {s:Shared} (h:wpAny (model C.prog C.w) A w Q NE s) (k:∀ a s',Q a s'→Q' a s'):wpAny (model C.prog C.w) A w Q' E s:=wpAny_mono h k fun _ _ z=>z.elim
theorem Le.late (L:Le C no σ₀ σ) (M:Le C ex σ σ') (h:∀ a,ex a→σ₀.h.get? a=none):Le C no σ₀ σ':=(L.any.trans M).mono fun a o e x=>nS ((h a x).symm.trans e)
theorem EnvR.weaken {φ:Phi} {h:Heap} {ρ':En} (E:EnvR C Γ env ρ φ h) (hl:ρ'.length=ρ.length) (hr:∀ (i:Nat) (v:V),ρ'[i]?=some (some v)→ρ[i]?=some (some v)):EnvR C Γ env ρ' φ h:=by
  obtain ⟨m,hm,hl'⟩:=E.loc
  refine ⟨E.S,hl.trans E.len,⟨m,hm,fun x i hx=>?_⟩,E.lown,E.cown,E.clive⟩
  rcases hl' x i hx with ⟨a,b⟩ | ⟨c,vo,a,hc,hh,b⟩
  · exact .loc a fun v hv=>b v (hr i v hv)
  · exact .cell c vo a hc hh fun v hv=>b v (hr i v hv)
noncomputable def testW (C:Ctx) (A:Around) (env:Env) (ifs:List PySem.Expr):Sem Bool:=forIn ifs true fun c r=>if r=true then do let ok ← isTrue c env (eval c env); pure (ForInStep.yield ok) else pure (ForInStep.yield r)
theorem ifs_ok (it:ST C d m t) (c:Cf d A) (hi:trIfs (t Γ) ifs=some cond):Sim C no (evr Γ env ρ) (wp C A (testW C A env ifs)) (condR (runX C d m) cond ρ) eqm:=by
  rcases ifs with _ | ⟨e,_ | ⟨e',r⟩⟩
  · cases hi
    exact Sim.rule (w':=fun Q s=>Q true s) (fun Q s h=>by unfold testW; rw [List.forIn_nil]; exact wpAny_pure h) (Sim.pure fun _ _=>rfl)
  · cases hi
    refine Sim.rule (fun Q s h=>?_) (it Γ env A ρ e c)
    unfold testW
    rw [List.forIn_cons]
    exact wpAny_bind (wpAny_bind (wpAny_mono h (fun b s' hb=>wpAny_pure (wpAny_pure hb)) fun _ _ x=>x))
  · exact nS hi
theorem turn_ok (ih:SX C d m t) (it:ST C d m t) (c:Cf d A) (hi:trIfs (t Γ) ifs=some cond) :
    Sim C no ((evr Γ cenv ρ).and (vr (.ref r) u)) (fun Q s=>wpAny (model C.prog C.w) A (testW C A cenv ifs) (fun b s₃=>if b=true then wpAny (model C.prog C.w) A (eval elt cenv) (fun x s₄=>wpAny (model C.prog C.w) A (call (.builtin "list.append") [u,x]) (fun _ s₅=>Q () s₅) NE s₄) NE s₃ else Q () s₃) NE s)
      (bnd (condR (runX C d m) cond ρ) fun b=>_root_.cond b (bnd (runX C d m (t Γ elt) ρ) (appR (.ref r))) (pur .none)) fun _ _=>(evr Γ cenv ρ).and (vr (.ref r) u):=by
  refine Sim.bind (ifs_ok it c hi).l (Sim.bool ?_ (Sim.pure fun _ p=>p))
  refine Sim.bind (ih Γ cenv A ρ elt c).l fun v a=>?_
  intro σ I ⟨⟨E,q⟩,qa⟩
  have q:VR σ.φ σ.h (.ref r) u:=q
  refine okR_bnd (okR_lft (ok_listAt fun vs e=>okR_grd fun hlt=>?_))
  have hlt:=Nat.le_of_ble_eq_true hlt
  have q':=q
  revert q'
  refine I.list e q ?_
  intro p ws n x q' Q k
  have L:Le C no σ _:=list_wrote (vs':=vs++[v]) (f:=fun xs=>xs.push a) I x (by rw [List.length_append]; exact Nat.le_trans hlt (by decide)) (by rw [Array.toList_push]; exact x.all.append (.cons qa .nil))
  exact call_meets PySem.F.slot_list_append ⟨_,x.lst,rfl⟩ PySem.F.entry_list_append (PySem.F.args_list_append_2 _ _) (list_append p.1 ws n a (by rw [x.size]; exact size_ok x.le)) ⟨x.lst,k _ _ (Aft.at L (((evr Γ cenv ρ).and (vr (.ref r) (.ref p.1))).up L ⟨E,q'⟩))⟩
structure CLoop (C:Ctx) (d m:Nat) (Γ:Cx) (cenv:Env) (ρ:En) (σ₀:Wo) (g:Hp→Option (List V)) (elt:X) (cond:Option X) (r:Nat) (u:Value) (J:Addr) (v:V) (Hf:Hp) (n k:Nat) (σ:Wo):Prop where
  e:comps (runX C d m) g elt cond r n k ρ σ.H=some (v,Hf)
  le:Le C no σ₀ σ
  env:EnvR C Γ cenv (ρ++[none]) σ.φ σ.h
  it:ItM C σ₀ g k J σ
  acc:VR σ.φ σ.h (.ref r) u
theorem comp_loop {Hf:Hp} {R:Result→Shared→Prop} (ih:SX C d m t) (it:ST C d m t) (c:Cf d A) (hi:trIfs (t Γ) ifs=some cond) (hx:Γ.sl.lookup x=some ρ.length) (hd:∀ a,slotAt cenv x a→σ₀.h.get? a=none) (hJ:¬ exF cenv J)
    (hR:∀ s₂ φ₂,Le C no σ₀ ⟨φ₂,s₂,Hf⟩→EnvR C Γ cenv (ρ++[none]) φ₂ s₂.heap→VR φ₂ s₂.heap v u→R (.ok .next) s₂)
    {n k:Nat} (L:CLoop C d m Γ cenv ρ σ₀ g (t Γ elt) cond r u J v Hf n k σ) :
    codeAny (model C.prog C.w) A (.compLoop (.ListComp elt [⟨.Name x px,iter,ifs,0⟩] sc pos) 0 (.ref J) u cenv) R σ.s:=by
  refine codeAny_compLoop_tests (fun n s'=>∃ k σ,s'=σ.s∧CLoop C d m Γ cenv ρ σ₀ g (t Γ elt) cond r u J v Hf n k σ) ?_ n ⟨k,σ,rfl,L⟩
  rintro n _ ⟨k,σ,rfl,L⟩
  rcases n with _ | n
  · exact nS L.e
  have e:=L.e
  rcases hg:g σ.H with _ | vs
  · have e:(match g σ.H with | none=>none | some vs=>_)=some (v,Hf):=e
    rw [hg] at e; exact nS e
  have I:=L.le.inv
  have FJ:Fr C σ (fun b=>b=J):=⟨fun a s e=>L.it.it.notSeq (e▸s),fun a e=>e▸L.it.own,fun a e=>e▸L.it.base⟩
  have move:∀ {h':Heap} {tk:Nat},(∀ b o,b≠J→σ.h.get? b=some o→h'.get? b=some o)→Le C no σ₀ (σ.at h' tk)∧EnvR C Γ cenv (ρ++[none]) σ.φ h'∧VR σ.φ h' (.ref r) u:=fun hk =>
    ⟨L.le.move FJ (fun a e=>e▸L.it.new) fun b o n=>hk b o n,L.env.keep (Step.at (ex:=fun b=>b=J) fun b o n=>hk b o n) FJ.seq fun a x e=>hJ (e▸x),L.acc.step (Step.at (ex:=fun b=>b=J) fun b o n=>hk b o n) FJ.seq⟩
  refine L.it.it.next c.hd I hg (fun w y h' tk hv qu J' hk=>?_) fun h' tk hv hk=>?_
  · obtain ⟨L1,E1,q1⟩:=move (tk:=tk) hk
    have e:(match g σ.H with | none=>none | some vs=>match vs[k]? with | none=>some (V.ref r,σ.H) | some v=>bnd (condR (runX C d m) cond (ρ++[some v])) (fun t'=>bnd (_root_.cond t' (bnd (runX C d m (t Γ elt) (ρ++[some v])) (appR (.ref r))) (pur .none)) fun _=>comps (runX C d m) g (t Γ elt) cond r n (k + 1) ρ) σ.H)=some (v,Hf):=e
    rw [hg] at e
    dsimp only at e; rw [hv] at e; dsimp only at e
    rw [← bnd_assoc] at e
    obtain ⟨_,H₁,e1,e2⟩:=bnd_some e
    refine loose (wpAny_assign_Name (okR_get (K:=fun _ H'=>∀ Q:Unit→Shared→Prop,(∀ a s',Aft C (slotAt cenv x) (σ.at h' tk) H' (evr (C:=C) Γ cenv (setLoc (ρ++[none]) ρ.length w)).p s'→Q a s')→wp C A (storeName cenv x y) Q (σ.at h' tk).s) rfl (store_ok hx (σ.at h' tk) L1.inv ⟨E1,qu⟩) _ fun _ s2 z=>z)) fun _ s2 ⟨φ2,M2,E2⟩=>?_
    have L2:=L1.late M2 hd
    have ne2:¬ slotAt cenv x J:=fun z=>hJ (slot_ex z)
    have hset:setLoc (ρ++[none]) ρ.length w=ρ++[some w]:=by
      unfold setLoc
      rw [List.set_append_right _ _ (Nat.le_refl _),Nat.sub_self]; rfl
    have E2:EnvR C Γ cenv (setLoc (ρ++[none]) ρ.length w) φ2 s2.heap:=E2
    rw [hset] at E2
    have F2:=E1.fr.sub (C:=C) (σ:=σ.at h' tk) (ex':=slotAt cenv x) fun _=>slot_ex
    have q2:=q1.step M2.st F2.seq
    have J2:ItM C σ₀ g (k + 1) J ⟨φ2,s2,σ.H⟩:=ItM.step (σ:=σ.at h' tk) ⟨J',L.it.new,L.it.own,L.it.base⟩ M2 ne2
    have T:=okR_get e1 (turn_ok (elt:=elt) (cenv:=cenv) ih it c hi ⟨φ2,s2,σ.H⟩ L2.inv ⟨E2,q2⟩)
    have fin:∀ s5,Aft C no ⟨φ2,s2,σ.H⟩ H₁ ((evr (C:=C) Γ cenv (ρ++[some w])).and (vr (.ref r) u)).p s5→∃ n',n' < n + 1∧∃ k σ,s5=σ.s∧CLoop C d m Γ cenv ρ σ₀ g (t Γ elt) cond r u J v Hf n' k σ:=fun s5 ⟨φ5,M5,E5,q5⟩ =>
      ⟨n,Nat.lt_succ_self _,k + 1,⟨φ5,s5,H₁⟩,rfl,⟨e2,L2.trans M5,EnvR.weaken E5 (by rw [List.length_append,List.length_append]; rfl) fun i v' hv'=>by
        by_cases hi':i < ρ.length
        · rw [List.getElem?_append_left hi'] at hv' ⊢; exact hv'
        · rw [List.getElem?_append_right (Nat.not_lt.mp hi')] at hv'
          exact (nN (List.mem_singleton.mp (List.mem_of_getElem? hv'))),J2.step M5 id,q5⟩⟩
    refine loose (T (fun _ s5=>∃ n',n' < n + 1∧∃ k σ,s5=σ.s∧CLoop C d m Γ cenv ρ σ₀ g (t Γ elt) cond r u J v Hf n' k σ) fun _ s5=>fin s5) fun b s3 h3=>?_
    rcases b with _ | _
    · exact h3
    · exact loose h3 fun y s4 h4=>loose h4 fun _ s5 h5=>h5
  · obtain ⟨L1,E1,q1⟩:=move (tk:=tk) hk
    have e:(match g σ.H with | none=>none | some vs=>match vs[k]? with | none=>some (V.ref r,σ.H) | some v=>_)=some (v,Hf):=e
    rw [hg] at e
    dsimp only at e; rw [hv] at e; dsimp only at e
    cases e
    exact hR _ σ.φ L1 E1 q1
end
end Mine
end
section
open PySem PySem.W PySem.Calls PyProof.Rows
namespace Mine
section
variable {C:Ctx} {d m:Nat} {A:Around} {ex:Addr→Prop} {Γ:Cx} {env cenv:Env} {ρ:En} {t:Cx→PySem.Expr→X} {pos px fp:Pos} {σ σ' σ₀:Wo} {v:V} {u:Value} {g:Hp→Option (List V)} {J:Addr} {x:Str} {sc:Scope} {elt iter:PySem.Expr} {ifs:List PySem.Expr} {cond:Option X} {r:Nat} {p:Addr×Addr}
theorem src_noset (ih:SX C d m t) (c:Cf d A) {H:Hp} (ht:∀ Γ a b c,t Γ (.Set a b c)=.bad):okR (bnd (evs (runX C d m) ρ (trSrc C.W Γ (t Γ) iter).2) (srcR (trSrc C.W Γ (t Γ) iter).1) H) fun _ _=>∀ y,foldedSetIterable iter env y=pure y:=by
  cases iter<;>first | exact okR_of fun _ _ _ _=>rfl | skip
  refine okR_of fun g H' e=>?_
  exfalso
  have e:bnd (evs (runX C d m) ρ [t Γ _]) (srcR false) H=some (g,H'):=e
  rw [ht,evs1] at e
  obtain ⟨_,_,e,_⟩:=bnd_some e
  rcases m with _ | m<;>exact nS e
structure CEnd (C:Ctx) (σ:Wo) (v:V) (u:Value) (a:Addr) (σ':Wo):Prop where
  le:Le C no σ σ'
  ns:∃ m,σ'.h.Ns a m
  new:σ.h.get? a=none
  own:¬ Own σ'.φ a
  base:C.h₀.get? a=none
  val:VR σ'.φ σ'.h v u
theorem comp_core {use:Option (Value→Sem Unit)} (St:Stat C) (ih:SX C d m t) (it:ST C d m t) (c:Cf d A) (ht:∀ Γ a b c,t Γ (.Set a b c)=.bad) (O:CompOk Γ x sc) (hi:trIfs (t (compCx Γ x sc)) ifs=some cond) (E:EnvR C Γ env ρ σ.φ σ.h) (I:Inv C σ) :
    okR (runX C d (m + 1) (.comp (t (compCx Γ x sc) elt) (trSrc C.W Γ (t Γ) iter).1 (trSrc C.W Γ (t Γ) iter).2 cond) ρ σ.H) fun v H'=>∀ Q:Value→Shared→Prop,
      (∀ u a s' φ',CEnd C σ v u a ⟨φ',s',H'⟩→compPost (model C.prog C.w) A NE use Q u a (.ok .next) s') →
      wpAny (model C.prog C.w) A (comprehension (.ListComp elt [⟨.Name x px,iter,ifs,0⟩] sc pos) sc env fp (newList []) false (eval iter env) use) Q NE σ.s:=by
  show okR (bnd (evs (runX C d m) ρ (trSrc C.W Γ (t Γ) iter).2) (fun vs=>bnd (srcR (trSrc C.W Γ (t Γ) iter).1 vs) fun g=>bnd (mkList []) fun u=>match u with | .ref r=>comps (runX C d m) g (t (compCx Γ x sc) elt) cond r lim 0 ρ | _=>non) σ.H) _
  rw [← bnd_assoc]
  refine okR_bnd (okR_of fun g H₁ e0=>?_)
  have z:=okR_get e0 (src_ok (σ₀:=σ) St ih c σ I ⟨E,fun _=>id⟩)
  have hs:=okR_get e0 (src_noset (env:=env) ih c ht)
  show okR (comps (runX C d m) g (t (compCx Γ x sc) elt) cond H₁.length lim 0 ρ (H₁++[.list []])) _
  refine okR_of fun v Hf e Q K=>?_
  obtain ⟨cl,hcl,c1,c2⟩:=closure_eq (cells_of O E)
  refine wpAny_comprehension_free rfl hs hcl O.kind (fun y hy hk=>lookup_nodup O.nd (hk▸hy)) (z _ fun iv s₂ ⟨φ₂,L₂,J,hiv,M₂⟩=>?_)
  subst hiv
  refine (newList_ok (ex:=no) (A:=A) (vs:=[]) (us:=[]) (Nat.zero_le _) ⟨φ₂,s₂,H₁⟩ L₂.inv .nil) _ fun acc s₃ ⟨φ₃,L₃,q₃⟩=>?_
  have L₂₃:=L₂.trans L₃
  have M₃:=M₂.step L₃ id
  have E₃:=E.step L₂₃.st
  have CE:=comp_env (σ:=⟨φ₃,s₃,H₁++[.list []]⟩) O c1 c2 E₃ L₃.inv
  refine newEnv_comp ?_
  have L₄:Le C no ⟨φ₃,s₃,H₁++[.list []]⟩ ⟨φ₃,Sh.on s₃ (hC s₃.heap sc) s₃.toks,H₁++[.list []]⟩:=Le.grow (σ:=⟨φ₃,s₃,H₁++[.list []]⟩) L₃.inv hC_keeps
  have dead:∀ {a},s₃.heap.get? a=none→σ.h.get? a=none:=fun {a}=>(since (C:=C) σ).up L₂₃ (fun _=>id) a
  have hx:(compCx Γ x sc).sl.lookup x=some ρ.length:=by
    rw [E.len]
    show List.lookup x ((x,Γ.n)::_)=_
    rw [List.lookup_cons,beq_self_eq_true]
  have hJ:¬ exF (envOf sc cl s₃.heap.objs.size env) J:=by
    obtain ⟨o,ho⟩:=M₃.it.live
    rintro (e | ⟨y,hy⟩)
    · rw [e] at ho
      exact nS ((show s₃.heap.get? s₃.heap.objs.size=none from fresh_get).symm.trans ho)
    · rcases CE.cells y J hy with q | q
      · obtain ⟨vo,o,ho,_⟩:=E.clive y J q
        exact nS (M₂.new.symm.trans ho)
      · exact nS (q.symm.trans ho)
  have L:CLoop C d m (compCx Γ x sc) (envOf sc cl s₃.heap.objs.size env) ρ σ g (t (compCx Γ x sc) elt) cond H₁.length acc J v Hf lim 0 ⟨φ₃,Sh.on s₃ (hC s₃.heap sc) s₃.toks,H₁++[.list []]⟩ :=
    ⟨e,L₂₃.trans L₄,CE.fr,M₃.step L₄ id,VR.le (σ:=⟨φ₃,s₃,H₁++[.list []]⟩) q₃ L₄⟩
  have loop:=comp_loop (elt:=elt) (iter:=iter) (px:=px) (sc:=sc) (pos:=pos) (R:=compPost (model C.prog C.w) A NE use Q acc s₃.heap.objs.size) ih it c hi hx (fun a ha=>dead (CE.slot a ha)) hJ (fun s₅ φ₅ L₅ E₅ q₅ =>
    K acc s₃.heap.objs.size s₅ φ₅ ⟨L₅,let ⟨m,hm,_⟩:=E₅.loc; ⟨m,hm⟩,dead fresh_get,E₅.lown,L₃.inv.notBase fresh_get,q₅⟩) L
  exact codeAny_compStart_list loop (L.it.it.self loop)
theorem sx_comp (St:Stat C) (ih:SX C d m t) (it:ST C d m t) (c:Cf d A) (ht:∀ Γ a b c,t Γ (.Set a b c)=.bad) (O:CompOk Γ x sc) (hi:trIfs (t (compCx Γ x sc)) ifs=some cond) :
    SXe C d (m + 1) Γ env A ρ (.ListComp elt [⟨.Name x px,iter,ifs,0⟩] sc pos) (.comp (t (compCx Γ x sc) elt) (trSrc C.W Γ (t Γ) iter).1 (trSrc C.W Γ (t Γ) iter).2 cond):=fun σ I E =>
  okR_mono (comp_core (use:=none) St ih it c ht O hi E I) fun v H' z Q k=>by
    show wpAny _ _ (eval _ _) _ _ _
    rw [eval_ListComp]
    refine z Q fun u a s' φ' W=>?_
    obtain ⟨mm,hm⟩:=W.ns
    refine ⟨mm,hm,fun h' sb=>?_⟩
    have F:Fr C ⟨φ',s',H'⟩ (fun b=>b=a):=⟨fun b s e=>Ns_notSeq hm (e▸s),fun b e=>e▸W.own,fun b e=>e▸W.base⟩
    exact k _ _ (Aft.at (σ':=Wo.at ⟨φ',s',H'⟩ h' s'.toks) (W.le.move F (fun b e=>e▸W.new) fun b o n e=>(sb.2 b n).trans e) (W.val.step (same_step sb) F.seq))
set_option tactic.hygienic true in
theorem sx_ListComp {gens:List Comprehension} (St:Stat C) (ih:SX C d m t) (it:ST C d m t) (c:Cf d A) (ht:∀ Γ a b c,t Γ (.Set a b c)=.bad):SXe C d (m + 1) Γ env A ρ (.ListComp elt gens sc pos) (trComp C.W t Γ elt sc gens):=by
  rcases gens with _ | ⟨⟨tg,iter,ifs,a⟩,_ | ⟨h,r⟩⟩
  · exact SXe.bad
  · cases tg<;>first | exact SXe.bad | skip
    rename_i x px
    rcases a with (_ | a) | a
    · refine SXe.cond fun O=>?_
      rcases hi:trIfs (t (compCx Γ x sc)) ifs with _ | cond
      · exact SXe.bad
      · exact sx_comp St ih it c ht (compOk_iff O) hi
    · exact SXe.bad
    · exact SXe.bad
  · exact SXe.bad
set_option tactic.hygienic true in
theorem sx_step (St:Stat C) (ih:SX C d m t) (it:ST C d m t) (ihf:SF C d) (ht:∀ Γ a b c,t Γ (.Set a b c)=.bad):SX C d (m + 1) (stepTr C.W t):=by
  intro Γ env A ρ e c
  cases e<;>first | exact SXe.bad | skip
  · exact sx_bops ih c _
  · exact sx_BinOp ih c
  · rename_i op y pos
    rcases op<;>first | exact SXe.bad | exact sx_Not ih c | exact sx_Neg ih c
  · rename_i ks vs pos
    rcases ks with _ | ⟨k,ks⟩
    · rcases vs with _ | _
      · exact sx_Dict ⟨rfl,rfl⟩
      · exact SXe.bad
    · rcases k with _ | k
      · exact SXe.bad
      · rcases ks with _ | ⟨l,ks⟩
        · rcases vs with _ | ⟨v,_ | ⟨w,vs⟩⟩
          · exact SXe.bad
          · exact sx_Dicts ih c (k:=k) (v:=v) (kvs:=[]) (Nat.zero_le 8)
          · exact SXe.bad
        · rcases l with _ | l
          · exact SXe.bad
          · rcases ks with _ | _
            · rcases vs with _ | ⟨v,_ | ⟨w,_ | ⟨x,vs⟩⟩⟩
              · exact SXe.bad
              · exact SXe.bad
              · exact sx_Dicts ih c (k:=k) (v:=v) (kvs:=[(l,w)]) (by decide:1≤8)
              · exact SXe.bad
            · exact SXe.bad
  · exact sx_ListComp St ih it c ht
  · rename_i l ops rs pos
    rcases ops with _ | ⟨op,_ | ⟨op2,ops⟩⟩
    · exact SXe.bad
    · rcases rs with _ | ⟨r,_ | ⟨r2,rs⟩⟩
      · exact SXe.bad
      · exact SXe.dnoc fun hm=>sx_Compare ih c hm
      · exact SXe.bad
    · exact SXe.bad
  · rename_i f args kws pos
    rcases kws with _ | _
    · cases f<;>first | exact SXe.bad | exact sx_CallName St ih ihf c | exact sx_CallAttr St ih ihf c
    · exact SXe.bad
  · exact sx_Constant
  · exact SXe.dnoc fun h=>SXe.attr fun f hf=>sx_Attribute St ih c h hf
  · rename_i o i pos
    cases i<;>first | exact sx_Sub rfl ih c | skip
    rename_i lo hi st p
    rcases st with _ | _
    · exact sx_Slice ih c
    · exact SXe.bad
  · exact SXe.dnoc fun hd=>sx_Name St hd
  · exact SXe.cond fun h=>sx_List ih c h
  · exact SXe.cond fun h=>sx_Tuple ih c h
end
end Mine
end
section
open PySem PySem.W PySem.Calls PyProof.Rows
namespace Mine
theorem fset_mem {f:Nat} {v:V} {fs:List (Nat×V)} {g:Nat×V} (h:g∈fset f v fs):g.1=f∨g∈fs:=by
  induction fs with
  | nil=>exact .inl (congrArg Prod.fst (List.mem_singleton.mp h))
  | cons p fs ih =>
    have h:g∈(if (p.1 == f)=true then (f,v)::fs else p::fset f v fs):=h
    by_cases e:(p.1 == f)=true
    · rw [if_pos e] at h
      exact (List.mem_cons.mp h).imp (congrArg Prod.fst) (.tail _)
    · rw [if_neg e] at h
      rcases List.mem_cons.mp h with h | h
      · exact .inr (h▸.head _)
      · exact (ih h).imp_right (.tail _)
theorem fset_keys {f:Nat} {v:V} {fs:List (Nat×V)} (h:(fs.map (·.1)).Nodup):((fset f v fs).map (·.1)).Nodup:=by
  induction fs with
  | nil=>exact List.nodup_cons.mpr ⟨nofun,.nil⟩
  | cons p fs ih =>
    have h:=List.nodup_cons.mp h
    show ((if (p.1 == f)=true then (f,v)::fs else p::fset f v fs).map (·.1)).Nodup
    by_cases e:(p.1 == f)=true
    · rw [if_pos e]
      exact List.nodup_cons.mpr ⟨eq_of_beq e▸h.1,h.2⟩
    · rw [if_neg e]
      refine List.nodup_cons.mpr ⟨fun hm=>?_,ih h.2⟩
      obtain ⟨g,hg,e'⟩:=List.mem_map.mp hm
      rcases fset_mem hg with q | q
      · exact e (beq_iff_eq.mpr (e'.symm.trans q))
      · exact h.1 (List.mem_map.mpr ⟨g,q,e'⟩)
theorem nodup_sub {β:Type} {l:List (Nat×β)} {m:List Nat} (nd:(l.map (·.1)).Nodup) (hs:∀ e,e∈l→e.1∈m):l.length≤m.length:=by
  rw [← List.length_map (f:=(·.1))]
  exact nodup_length nd fun a ha=>let ⟨e,he,h⟩:=List.mem_map.mp ha; h▸hs e he
section
variable {C:Ctx} {d m:Nat} {A:Around} {ex ex':Addr→Prop} {φ:Phi} {h:Heap} {u v:V} {a b:Value} {nm:Str} {f:Nat} {fs:List (Nat×V)} {ds:List DictEntry}
theorem fr_put {nms:List Str} (hn:nms.Nodup) (hx:nms[f]?=some nm) {hsh:Int} {t:Tok} (q:All2 (FR nms φ h) fs ds) (qu:VR φ h v b):All2 (FR nms φ h) (fset f v fs) (putL nm hsh (.str nm t) b ds):=by
  induction q with
  | nil=>exact .cons ⟨nm,t,hx,rfl,qu⟩ .nil
  | @cons p e fs ds z r ih =>
    obtain ⟨y,t',hy,ht,hv⟩:=z
    show All2 _ (if (p.1 == f)=true then (f,v)::fs else p::fset f v fs) (putL nm hsh (.str nm t) b (e::ds))
    have hk:e.key.isStr nm=(y == nm):=by rw [ht,isStr_eq]
    unfold putL
    by_cases g:p.1=f
    · have ey:=Option.some.inj ((g▸hy).symm.trans hx)
      rw [if_pos (beq_iff_eq.mpr g),if_pos (by rw [hk,ey,beq_self_eq_true])]
      exact .cons ⟨nm,t',hx,by rw [ht,ey],qu⟩ r
    · rw [if_neg fun z=>g (eq_of_beq z),if_neg (by rw [hk]; exact fun z=>g (nodup_get hn hy (eq_of_beq z▸hx)))]
      exact .cons ⟨y,t',hy,ht,hv⟩ ih
set_option tactic.hygienic true in
theorem osa_raw {s:Shared} {K:Frag} {c x dx:Addr} {tk:Tok} {u:Value} {es es':List DictEntry} {m m':Nat} {R:Result→Shared→Prop} (X:K.In s.heap) (h1:s.heap.get? x=some (instObj c dx)) (h2:s.heap.get? dx=some (dictOf es m))
    (hp:plainOver K c=true) (ht:takerIn K c nm=some none) (hh:hasDictIn K c=true) (hl:(W.getL nm es).isSome=true)
    (e:(putL nm (PyData.keyHash C.w.params nm) (.str nm s.toks) u es,putN nm es m)=(es',m')) (hz:es'.length≤1000)
    (hR:∀ h',h'.get? dx=some (dictOf es' m')→Heap.SameBut dx s.heap h'→R (.ok (.ret .none)) (Sh.on s h' (s.toks + 1))) :
    codeAny (model C.prog C.w) A (.call (.builtin "object.__setattr__") ⟨[.ref x,.str nm tk,u],[]⟩) R s:=by
  obtain ⟨e1,e2⟩:=Prod.mk.inj e
  have D':(s.heap.update dx (Obj.putName nm (PyData.keyHash C.w.params nm) (.str nm s.toks) u)).get? dx=some (dictOf es' m'):=by
    rw [Heap.get?_update_self (Obj.putName nm (PyData.keyHash C.w.params nm) (.str nm s.toks) u) h2 (by rw [putName_dict]; rfl),putName_dict,e1,e2]
  obtain ⟨cd,hc,hd⟩:=any_some hh
  refine osa_open X (instAt' h1 h2) hp ht fun b=>?_
  refine wpAny_bind (wpAny_pure (wpAny_bind (wpAny_bind (wpAny_loadPart h1 (wpAny_bind ((looks_clsIn X hc).here ?_))))))
  rw [hd]
  refine wpAny_pure (a:=some dx) (wpAny_bind (wpAny_pure (wpAny_bind ?_)))
  unfold nsSet
  refine wpAny_bind (wpAny_bind (wpAny_askSetting (wpAny_pure (wpAny_bind (wpAny_mkText (wpAny_bind (wpAny_loadPart h2 ?_)))))))
  dsimp only
  have hnone:(!es.toArray.any (·.key.isStr nm) && es.toArray.any (·.refKey))=false:=by
    rw [← Array.any_toList,← Array.any_toList]
    show (!es.any _ && es.any _)=false
    unfold W.getL at hl
    split at hl
    · rename_i en he
      rw [List.any_eq_true.mpr ⟨en,List.mem_of_find?_eq_some he,List.find?_some he⟩]; rfl
    · split at hl
      · cases hl
      · rename_i z; rw [Bool.not_eq_true] at z; rw [z,Bool.and_false]
  rw [aRefKeyMayBeTheName_at,hnone]
  refine wpAny_updatePart h2 (wpAny_bind (wpAny_lookBehind D' (pastItsLine_dict (by rw [List.size_toArray,sizeLine_eq]; exact Nat.le_trans (by assumption) (by decide))) ?_))
  exact wpAny_pure (hR _ D' (Heap.SameBut.update ..))
noncomputable def top:Mp C:=pr True
theorem setattr_ok (St:Stat C) (ha:C.W.attr nm=some f):Sim C ex ((vr u a).and (vr v b)) (wp C A (setAttr a nm b)) (setR C.T f v u) fun _ _=>top:=fun σ I p =>
  okR_bnd (okR_getI (K:=fun x H a=>okR (bnd (lft C.T.cls[x.1]?) (fun ci=>grd (ci.fields.contains f) (putO u (.inst x.1 (fset f v x.2)))) H) fun _ H'=>∀ Q:Unit→Shared→Prop,(∀ z s',Aft C ex σ H' (top (C:=C)).p s'→Q z s')→wp C A (setAttr a nm b) Q σ.s) I p.1 fun r p' c fs hu hp _ z =>
    okR_bnd (okR_lft (ok_of fun ci hci=>okR_grd fun hf=>by
      subst hu
      intro Q k
      obtain ⟨ci',ca,ds,n,e1,e2,h1,h2,hne,ff,nd,fr⟩:=z
      cases Option.some.inj (hci.symm.trans e1)
      have CO:=St.clss c ci ca e1 e2
      have hf:f∈ci.fields:=by simpa using hf
      obtain ⟨x,hx,hfi⟩:=CO.fields f hf
      cases Option.some.inj ((attr_get ha).symm.trans hx)
      have X:=I.kin St
      have hl:(W.getL nm ds).isSome=true:=by
        unfold W.getL
        split
        · rfl
        · rw [(fr_get St.nm hx fr).2]; rfl
      have ff':∀ e,e∈fset f v fs→e.1∈ci.fields:=fun e he=>(fset_mem he).elim (fun q=>q▸hf) (ff e)
      have fr':=fr_put St.nm hx (hsh:=PyData.keyHash C.w.params nm) (t:=σ.s.toks + 1) fr p.2
      have hz:(putL nm (PyData.keyHash C.w.params nm) (.str nm (σ.s.toks + 1)) b ds).length≤1000:=fr'.length▸Nat.le_trans (nodup_sub (fset_keys nd) ff') (Nat.le_trans CO.few (by decide))
      refine set_plain X (instAt' h1 h2) CO.sa (osa_raw (s:=Sh.tk σ.s (σ.s.toks + 1)) X h1 h2 CO.over (by unfold takerIn; rw [hfi]; rfl) CO.dict hl rfl hz fun h' hd sb=>?_)
      exact k _ _ (Aft.at (Le.wrote (tk:=σ.s.toks + 2) (o:=.inst c (fset f v fs)) I hp (fun a n=>sb.2 a fun z=>n (.inr z)) (fun a d=>d.elim (fun e=>⟨_,e▸(sb.2 _ hne).trans h1⟩) fun e=>⟨_,e▸hd⟩) fun S=>⟨ci,ca,_,_,e1,e2,(sb.2 _ hne).trans h1,hd,hne,ff',fset_keys nd,fr'.mono fun _ _ ⟨x,t,a,b,c⟩=>⟨x,t,a,b,c.step S no_seq⟩⟩) trivial))))
theorem setItem_list_raw {s:Shared} {l:Addr} {items:Array Value} {m:Nat} {k:Int} {t:Tok} {u:Value} {Q:Unit→Shared→Prop} (hl:LstAt s.heap l items m)
    (h0:0≤k) (hfit:k < 2 ^ 63) (hn:k < items.size)
    (hQ:Q () (Sh.on s (s.heap.update l (Obj.mapSeq fun xs=>xs.setIfInBounds k.toNat u)) s.toks)):wpAny (model C.prog C.w) A (setItem (.ref l) (.int k t) u) Q NE s:=by
  have hT:s.TypeIs (.ref l) "list":=⟨_,hl,rfl⟩
  unfold setItem
  try with_reducible refine wpAny_holding ?_
  first | refine wpAny_bind (wpAny_pure ?_) | skip
  refine wpAny_bind (wpAny_sequenceKey hT (by decide) ?_)
  refine wpAny_bind (wpAny_callSpecial?_slot (name:=Str.ofString "__setitem__") hT slot_list_setitem
    (wpAny_call_entry slot_list_setitem hT entry_list_setitem ?_ (args_list_setitem _ _ _)))
  show wpAny _ _ (Builtin.List.listSubscript? (.int k t) >>= _) _ _ s
  refine wpAny_bind (wpAny_listSubscript_int (fitsIndex_of h0 hfit) ?_)
  obtain ⟨j,rfl⟩:=Int.eq_ofNat_of_zero_le h0
  have hj:j < items.size:=by (first | lia | omega +splitDisjunctions)
  have hx':items[j]?=some items[j]:=Array.getElem?_eq_getElem hj
  show wpAny _ _ ((seqItemAt l j >>= fun r=>pure (r.map (j,·))) >>= _) _ _ s
  refine wpAny_bind (wpAny_bind (wpAny_seqItemAt hl rfl (wpAny_pure ?_)))
  rw [hx']
  show wpAny _ _ (setSeqItemAt l j u >>= _) _ _ s
  refine wpAny_bind (wpAny_setSeqItemAt hl rfl ?_)
  first
    | exact wpAny_bind (wpAny_pure (wpAny_pure ⟨.none,rfl,wpAny_pure hQ⟩))
    | exact wpAny_pure ⟨.none,rfl,wpAny_pure hQ⟩
variable {o i:V} {uo ui:Value}
theorem setitem_ok (hu:A.units + 64 < cLine):Sim C ex (((vr o uo).and (vr i ui)).and (vr v b)) (wp C A (setItem uo ui b)) (itemR o i v) fun _ _=>top:=by
  intro σ I ⟨⟨qo,qi⟩,q⟩
  have qo:VR σ.φ σ.h o uo:=qo
  have go:ok (setItemV o i v σ.H) fun H'=>∀ Q:Unit→Shared→Prop,(∀ z s',Aft C ex σ H' (top (C:=C)).p s'→Q z s')→wp C A (setItem uo ui b) Q σ.s:=by
    rcases o with _ | _ | _ | _ | _ | _ | r<;>try trivial
    refine ok_els (ok_bind (ok_listAt fun vs e=>I.list (K:=fun uo=>ok _ fun H'=>∀ Q:Unit→Shared→Prop,(∀ z s',Aft C ex σ H' (top (C:=C)).p s'→Q z s')→wp C A (setItem uo ui b) Q σ.s) e qo fun p ws n x=>ok_bind (ok_int (K:=fun k ui=>ok _ fun H'=>∀ Q:Unit→Shared→Prop,(∀ z s',Aft C ex σ H' (top (C:=C)).p s'→Q z s')→wp C A (setItem (.ref p.1) ui b) Q σ.s) qi fun k t _=>ok_cond fun hk=>?_)))
      (ok_els (ok_bind (ok_dictAt fun es e=>I.dict (K:=fun uo=>ok _ fun H'=>∀ Q:Unit→Shared→Prop,(∀ z s',Aft C ex σ H' (top (C:=C)).p s'→Q z s')→wp C A (setItem uo ui b) Q σ.s) e qo fun p hp z=>ok_bind (ok_int (K:=fun k ui=>ok _ fun H'=>∀ Q:Unit→Shared→Prop,(∀ z s',Aft C ex σ H' (top (C:=C)).p s'→Q z s')→wp C A (setItem (.ref p.1) ui b) Q σ.s) qi fun k t _=>ok_cond fun hk=>?_))) (ok_bind (ok_mono (I.td (K:=fun es uo=>ok ((keyT i).bind fun k=>cond (decide (es.length < lim)) (some (σ.H.set r (.tdict ((k,v)::es)))) none) fun H'=>∀ Q:Unit→Shared→Prop,(∀ z s',Aft C ex σ H' (top (C:=C)).p s'→Q z s')→wp C A (setItem uo ui b) Q σ.s) qo fun es p hp z=>ok_bind (ok_keyT (C:=C) (K:=fun k ui=>ok _ fun H'=>∀ Q:Unit→Shared→Prop,(∀ z s',Aft C ex σ H' (top (C:=C)).p s'→Q z s')→wp C A (setItem (.ref p.1) ui b) Q σ.s) qi fun k l hk no=>ok_cond fun hlt=>?_)) fun _ z=>z)))
    · have ⟨k1,k2⟩:=and_tt hk
      have ⟨k2,k3⟩:=and_tt k2
      rw [small_iff] at k1
      have k2:=of_decide_eq_true k2
      have k3:=of_decide_eq_true k3
      exact fun Q k=>setItem_list_raw x.lst k2 (by (first | lia | omega +splitDisjunctions)) (by rw [x.size]; (first | lia | omega +splitDisjunctions)) (k _ _ (Aft.at (list_wrote (vs':=vs.set _ v) (f:=fun xs=>xs.setIfInBounds _ b) I x (by rw [List.length_set]; exact x.le) (by rw [Array.toList_setIfInBounds]; exact x.all.set _ q)) trivial))
    · have hk:=of_decide_eq_true hk
      obtain ⟨ka,hd,hle,l,h2,hf⟩:=z
      refine fun Q K=>wpAny_setItem_pairs (k:=k) (intKind_is _ _ _ _) hd (fun h' hm' sb=>K _ _ (Aft.at (Le.wrote (tk:=σ.s.toks + 1) (o:=.dict (dset k v es)) I hp (fun a n=>sb.2 a fun z=>n (.inl z)) (fun a d=>?_) fun S=>⟨_,hm',Nat.le_trans (stored_length_le ka k b) (Nat.succ_le_succ hle),Nat.le_trans hk (by decide),h2,fun j=>?_⟩) trivial)) (by rw [sizeLine_eq]; rw [lim_eq] at hk; (first | lia | omega +splitDisjunctions))
      · have e:a=p.1:=d.elim id (·.trans h2)
        subst e
        obtain ⟨o',_,_,ho',_⟩:=hm'; exact ⟨o',ho'⟩
      · rw [valueAt_stored]
        show MR σ.φ h' (if (k == j)=true then some v else dget j es) (if j=k then some b else valueAt ka j)
        by_cases e:j=k
        · rw [if_pos e,if_pos (beq_iff_eq.mpr e.symm)]
          exact VR.step S no_seq q
        · rw [if_neg e,if_neg fun z=>e (eq_of_beq z).symm]
          exact (hf j).step S no_seq
    · have hlt:=of_decide_eq_true hlt
      obtain ⟨xs,hd,hle,l',h2,hno,hf⟩:=z
      refine fun Q K=>wpAny_setItem_heap (knd:=tupleKind (intKind C.prog C.w)) (k:=k) (tupleKind_room_in1 (by (first | lia | omega +splitDisjunctions))) hk hd (fun h' hm' sb=>K _ _ (Aft.at (Le.wrote (tk:=σ.s.toks + (k.length + 1)) (o:=.tdict ((k,v)::es)) I hp (fun a n=>sb.2 a fun z=>n (.inl z)) (fun a d=>?_) fun S=>⟨_,hm',Nat.le_trans (storedH_length xs k l b) (Nat.succ_le_succ hle),Nat.le_trans hlt (by decide),h2,fun x hx=>?_,fun j=>?_⟩) trivial)) (by rw [sizeLine_eq]; rw [lim_eq] at hlt; (first | lia | omega +splitDisjunctions))
      · have e:a=p.1:=d.elim id (·.trans h2)
        subst e
        obtain ⟨o',_,_,ho',_⟩:=hm'; exact ⟨o',ho'⟩
      · rcases q:atKey xs k with _ | y
        · rw [storedH_new q] at hx
          rcases List.mem_append.mp hx with w | w
          · exact hno x w
          · rw [List.mem_singleton.mp w]; exact no
        · rw [storedH_old q] at hx
          obtain ⟨w,hw,rfl⟩:=List.mem_map.mp hx
          have e:(putAt k b w).2.1=w.2.1:=by unfold putAt; split<;>rfl
          rw [e]; exact hno w hw
      · rw [atKey_storedH]
        show MR σ.φ h' (if (k == j)=true then some v else tget j es) (if j=k then some b else (atKey xs j).map (·.2))
        by_cases e:j=k
        · rw [if_pos e,if_pos (beq_iff_eq.mpr e.symm)]
          exact VR.step S no_seq q
        · rw [if_neg e,if_neg fun z=>e (eq_of_beq z).symm]
          exact (hf j).step S no_seq
  unfold itemR
  rcases h:setItemV o i v σ.H with _ | H'
  · trivial
  · rw [h] at go; exact go
end
end Mine
end
section
open PySem PySem.W PySem.Calls PyProof.Rows
namespace Mine
noncomputable def leftOut (e:PySem.Expr):Bool:=Nat.beq e.ctorIdx 7 || (Nat.beq e.ctorIdx 9 || (Nat.beq e.ctorIdx 10 || Nat.beq e.ctorIdx 11))
noncomputable def Out (t:Cx→PySem.Expr→X):Prop:=∀ Γ e,leftOut e=true→t Γ e=.bad
theorem tr_out {W:Wd} (k:Nat):Out (tr W k):=fun Γ e h=>by
  rcases k with _ | k
  · rfl
  · cases e<;>first | rfl | exact nB h
theorem swap_or {t:Cx→PySem.Expr→X} (ht:Out t) {Γ:Cx} {env:Env} {e:PySem.Expr} {g:Option PySem.Expr} {l:Nat} (hc:isComp e=false):swapsWith e g l env=pure false∨t Γ e=.bad:=by
  cases e<;>first | exact .inl rfl | exact .inr (ht _ _ rfl) | exact nT hc
section
variable {C:Ctx} {d m:Nat} {A:Around} {ex ex':Addr→Prop} {Γ:Cx} {env:Env} {ρ ρ':En} {t:Cx→PySem.Expr→X} {ts:PySem.Stmt→S} {pos tp px:Pos} {σ:Wo} {v:V} {u a:Value} {x nm:Str} {i f:Nat} {e o it:PySem.Expr} {st:PySem.Stmt} {α β δ:Type} {P:Mp C} {w:Tr α} {op:Operator}
noncomputable def flr:Fl→Flow→Mp C
  | .next,.next=>pr True
  | .cont,.cont=>pr True
  | .ret v,.ret u=>vr v u
  | _,_=>pr False
noncomputable def enf (Γ:Cx) (env:Env) (p:Fl×En) (f:Flow):Mp C:=(evr Γ env p.2).and (flr p.1 f)
noncomputable abbrev runS (C:Ctx) (d m:Nat):S→En→Rn (Fl×En):=(ev C.T (evF C.T d) m).s
noncomputable def SSe (C:Ctx) (d m:Nat) (Γ:Cx) (env:Env) (A:Around) (ρ:En) (st:PySem.Stmt) (s:S):Prop:=Sim C (exF env) (evr Γ env ρ) (wp C A (exec st env)) (runS C d m s ρ) (enf Γ env)
noncomputable def SS (C:Ctx) (d m:Nat) (Γ:Cx) (ts:PySem.Stmt→S):Prop:=∀ (env:Env) (A:Around) (ρ:En) (st:PySem.Stmt),Cf d A→SSe C d m Γ env A ρ st (ts st)
theorem SSe.bad:SSe C d m Γ env A ρ st .bad:=by
  rcases m with _ | m<;>exact Sim.non
theorem SSe.dnoc {b:Bool} {s:S} (h:b=false→SSe C d m Γ env A ρ st s):SSe C d m Γ env A ρ st (cond b .bad s):=by
  rcases b with _ | _
  · exact h rfl
  · exact SSe.bad
theorem SSe.slot {n:Str} {g:Nat→S} (h:∀ i,Γ.sl.lookup n=some i→SSe C d m Γ env A ρ st (g i)):SSe C d m Γ env A ρ st (withSlot Γ n g):=by
  unfold withSlot
  rcases e:Γ.sl.lookup n with _ | i
  · exact SSe.bad
  · exact h i e
theorem SSe.attr {n:Str} {g:Nat→S} (h:∀ i,C.W.attr n=some i→SSe C d m Γ env A ρ st (g i)):SSe C d m Γ env A ρ st (withAttrS C.W n g):=by
  unfold withAttrS
  rcases e:C.W.attr n with _ | i
  · exact SSe.bad
  · exact h i e
theorem Sim.badX {g:V→Rn β} {R:β→α→Mp C} {y:X} (h:y=.bad):Sim C ex P w (bnd (runX C d m y ρ) g) R:=by
  subst h
  rcases m with _ | m<;>exact Sim.non
theorem Sim.exm {f:Rn β} {R:β→α→Mp C} (y:Sim C ex P w f R) (h:∀ a,ex a→ex' a):Sim C ex' P w f R:=fun σ I p=>okR_mono (y σ I p) fun b H' z Q k=>z Q fun a s' ⟨φ,l,q⟩=>k a s' ⟨φ,l.mono fun a _ _=>h a,q⟩
theorem Sim.absurd {f:Rn β} {R:β→α→Mp C} (h:∀ σ,P.p σ→False):Sim C ex P w f R:=fun σ _ p=>(h σ p).elim
theorem Sim.int {w:Value→Tr α} {f:Int→Rn β} {R:β→α→Mp C} (y:∀ i t,Sim C ex P (w (.int i t)) (f i) R) (v:V) (a:Value):Sim C ex (P.and (vr v a)) (w a) (intR f v) R:=by
  rcases v with _ | _ | i | _ | _ | _ | _<;>try exact Sim.non
  exact fun σ I p=>let ⟨t,e⟩:=p.2; by
    subst e
    exact y i t σ I p.1
theorem next_ok:Sim C ex (evr Γ env ρ) (fun Q s=>Q .next s) (pur (Fl.next,ρ)) (enf Γ env):=Sim.pure fun _ p=>⟨p,trivial⟩
theorem Sim.end (h:∀ σ,P.p σ→(evr (C:=C) Γ env ρ).p σ):Sim C ex P (fun Q s=>Q .next s) (pur (Fl.next,ρ)) (enf Γ env):=next_ok.wk h
theorem inter (E:EnvR C Γ env ρ σ.φ σ.h):interactive env=false:=by unfold interactive; rw [E.S.kind]; rfl
theorem sb_ok (is:SS C d m Γ ts) (c:Cf d A) (sts:List PySem.Stmt):∀ ρ,Sim C (exF env) (evr Γ env ρ) (wp C A (execs sts env)) (exs (runS C d m) (sts.map ts) ρ) (enf Γ env):=by
  induction sts with
  | nil=>exact fun ρ=>Sim.rule (fun Q s=>wpAny_execs_nil) next_ok
  | cons st sts ih =>
    intro ρ
    refine Sim.rule (fun Q s=>wpAny_execs_cons) (Sim.seq (is env A ρ st c) fun p f=>?_)
    obtain ⟨fl,ρ'⟩:=p
    rcases fl with _ | _ | v<;>cases f<;>first | exact Sim.absurd fun _ h=>h.2 | skip
    · exact (ih ρ').l
    · exact Sim.pure fun _ p=>p
    · exact Sim.pure fun _ p=>p
theorem ss_Expr (ht:Out t) (ih:SX C d m t) (c:Cf d A) (hc:isComp e=false):SSe C d (m + 1) Γ env A ρ (.Expr e pos) (.expr (t Γ e)):=by
  rcases swap_or (Γ:=Γ) ht hc with hs | hs
  · refine Sim.ruleI (fun σ I E Q h=>wpAny_Expr_any h (inter E) hs) (Sim.bind (g:=fun _=>pur (Fl.next,ρ)) (ih Γ env A ρ e c) fun v u=>?_)
    exact Sim.end fun _=>And.left
  · exact Sim.badX (g:=fun _=>pur (Fl.next,ρ)) hs
theorem ss_Return (ih:SX C d m t) (c:Cf d A):SSe C d (m + 1) Γ env A ρ (.Return (some e) pos) (.ret (t Γ e)):=by
  refine Sim.rule (fun Q s=>wpAny_Return_some) (Sim.bind (g:=fun v=>pur (Fl.ret v,ρ)) (ih Γ env A ρ e c) fun v u=>?_)
  exact Sim.pure fun _ p=>p
theorem ss_Return0:SSe C d (m + 1) Γ env A ρ (.Return none pos) (.ret (.const .none)):=by
  rcases m with _ | m
  · exact Sim.non
  · exact Sim.rule (fun Q s=>wpAny_Return_none) (Sim.eq (f':=pur (Fl.ret V.none,ρ)) (Sim.pure fun _ p=>⟨p,vr_none⟩) rfl)
theorem put_ok (hx:Γ.sl.lookup x=some i):Sim C (exF env) ((evr Γ env ρ).and (vr v u)) (fun Q s=>wpAny (model C.prog C.w) A (storeName env x u) (fun _=>Q .next) NE s) (pur (Fl.next,setLoc ρ i v)) (enf Γ env):=by
  refine Sim.eq (f':=bnd (pur ()) fun _=>pur (Fl.next,setLoc ρ i v)) (Sim.seq ((store_ok hx).exm fun _=>slot_ex) fun _ _=>?_) rfl
  exact next_ok
theorem ss_AssignName (ih:SX C d m t) (c:Cf d A) (hx:Γ.sl.lookup x=some i) (hs:swapsWith e (some (.Name x px)) pos.line env=pure false):SSe C d (m + 1) Γ env A ρ (.Assign [.Name x px] e pos) (.asg i (t Γ e)) :=
  Sim.rule (fun Q s h=>wpAny_Assign_Name h hs) (Sim.bind (g:=fun v=>pur (Fl.next,setLoc ρ i v)) (ih Γ env A ρ e c) fun v u=>put_ok hx)
theorem ss_AssignAttr (St:Stat C) (ht:Out t) (ih:SX C d m t) (c:Cf d A) (hc:isComp e=false) (hf:C.W.attr nm=some f):SSe C d (m + 1) Γ env A ρ (.Assign [.Attribute o nm tp] e pos) (.setattr (t Γ o) f (t Γ e)):=by
  rcases swap_or (Γ:=Γ) ht hc with hs | hs
  · refine Sim.rule (fun Q s h=>plainObj_wpAny_Assign_Attribute h hs) (Sim.bind (g:=(fun v=>bnd (runX C d m (t Γ o) ρ) fun u=>bnd (setR C.T f v u) fun _=>pur (Fl.next,ρ))) (ih Γ env A ρ e c) fun v b=>?_)
    refine Sim.bind (ih Γ env A ρ o c).l fun u a=>?_
    refine Sim.bind (Sim.wk (setattr_ok St hf) fun σ p=>⟨p.2,p.1.2⟩) fun _ _=>?_
    exact Sim.end fun _ p=>p.1.1.1
  · exact Sim.badX (g:=(fun v=>bnd (runX C d m (t Γ o) ρ) fun u=>bnd (setR C.T f v u) fun _=>pur (Fl.next,ρ))) hs
theorem ss_AssignSub (ht:Out t) (ih:SX C d m t) (c:Cf d A) (hc:isComp e=false):SSe C d (m + 1) Γ env A ρ (.Assign [.Subscript o it tp] e pos) (.setitem (t Γ o) (t Γ it) (t Γ e)):=by
  rcases swap_or (Γ:=Γ) ht hc with hs | hs
  · refine Sim.rule (fun Q s h=>wpAny_Assign_Subscript h hs) (Sim.bind (g:=(fun v=>bnd (runX C d m (t Γ o) ρ) fun u=>bnd (runX C d m (t Γ it) ρ) fun k=>bnd (itemR u k v) fun _=>pur (Fl.next,ρ))) (ih Γ env A ρ e c) fun v b=>?_)
    refine Sim.bind (ih Γ env A ρ o c).l fun u a=>?_
    refine Sim.bind (ih Γ env A ρ it c).l.l fun k ki=>?_
    refine Sim.bind (Sim.wk (setitem_ok c.room) fun σ p=>⟨⟨p.1.2,p.2⟩,p.1.1.2⟩) fun _ _=>?_
    exact Sim.end fun _ p=>p.1.1.1.1
  · exact Sim.badX (g:=(fun v=>bnd (runX C d m (t Γ o) ρ) fun u=>bnd (runX C d m (t Γ it) ρ) fun k=>bnd (itemR u k v) fun _=>pur (Fl.next,ρ))) hs
theorem aug_sim {j k:Int} {y z:Tok}:Sim C ex P (wp C A (inplaceOp op (.int j y) (.int k z))) (lft (augV op j k)) fun n r=>vr (.int n) r:=fun σ I p=>okR_lft (ok_mono (aug_ok (C:=C) (A:=A) (s:=σ.s) (i:=y) (j:=z)) fun c g Q k=>g Q (k _ _ (Aft.tk _ I vr_int)))
theorem ss_AugName (ih:SX C d m t) (c:Cf d A) (hx:Γ.sl.lookup x=some i):SSe C d (m + 1) Γ env A ρ (.AugAssign (.Name x tp) op e pos) (.augName i op (t Γ e)):=by
  refine Sim.rule (fun Q s=>wpAny_AugAssign_Name) (Sim.bind (g:=intR fun a=>bnd (runX C d m (t Γ e) ρ) (intR fun b=>bnd (lft (augV op a b)) fun z=>pur (Fl.next,setLoc ρ i (.int z)))) (load_ok hx) (Sim.int fun j y=>?_))
  refine Sim.bind (ih Γ env A ρ e c) (Sim.int fun k z=>?_)
  exact Sim.bind aug_sim fun n r=>put_ok hx
theorem ss_AugAttr (St:Stat C) (ih:SX C d m t) (c:Cf d A) (hf:C.W.attr nm=some f):SSe C d (m + 1) Γ env A ρ (.AugAssign (.Attribute o nm tp) op e pos) (.augAttr (t Γ o) f op (t Γ e)):=by
  refine Sim.rule (fun Q s=>wpAny_AugAssign_AttributeAny) (Sim.bind (g:=fun u=>bnd (attrR f u) (intR fun a=>bnd (runX C d m (t Γ e) ρ) (intR fun b=>bnd (lft (augV op a b)) fun z=>bnd (setR C.T f (.int z) u) fun _=>pur (Fl.next,ρ)))) (ih Γ env A ρ o c) fun u a=>?_)
  refine Sim.bind (attr_ok St hf).r (Sim.int fun j y=>?_)
  refine Sim.bind (ih Γ env A ρ e c).l (Sim.int fun k z=>?_)
  refine Sim.bind aug_sim fun n r=>?_
  refine Sim.bind (Sim.wk (setattr_ok St hf) fun σ p=>⟨p.1.2,p.2⟩) fun _ _=>?_
  exact Sim.end fun _ p=>p.1.1.1
theorem ss_AugSub (ih:SX C d m t) (c:Cf d A) (hsl:isSliceE it=false):SSe C d (m + 1) Γ env A ρ (.AugAssign (.Subscript o it tp) op e pos) (.augItem (t Γ o) (t Γ it) op (t Γ e)):=by
  refine Sim.rule (fun Q s h=>wpAny_AugAssign_SubscriptAny h fun ov iv new=>by cases it<;>first | rfl | exact nT hsl) (Sim.bind (g:=fun u=>bnd (runX C d m (t Γ it) ρ) fun k=>bnd (fun H=>lft (subV u k H) H) (intR fun a=>bnd (runX C d m (t Γ e) ρ) (intR fun b=>bnd (lft (augV op a b)) fun z=>bnd (itemR u k (.int z)) fun _=>pur (Fl.next,ρ)))) (ih Γ env A ρ o c) fun u a=>?_)
  refine Sim.bind (ih Γ env A ρ it c).l fun k ki=>?_
  refine Sim.bind (Sim.wk (sub_ok c.room) fun σ p=>⟨p.1.2,p.2⟩) (Sim.int fun j y=>?_)
  refine Sim.bind (ih Γ env A ρ e c).l.l (Sim.int fun k z=>?_)
  refine Sim.bind aug_sim fun n r=>?_
  refine Sim.bind (Sim.wk (setitem_ok c.room) fun σ p=>⟨⟨p.1.1.2,p.1.2⟩,p.2⟩) fun _ _=>?_
  exact Sim.end fun _ p=>p.1.1.1.1
set_option tactic.hygienic true in
theorem unpack_name {ts:List PySem.Expr} {is:List Nat} (h:unpackSlots Γ (e::ts)=some is):∃ y py j js,e=.Name y py∧Γ.sl.lookup y=some j∧unpackSlots Γ ts=some js∧is=j::js:=by
  cases e<;>try exact nS (show (none:Option (List Nat))=some is from h)
  rename_i y py
  have h:(match Γ.sl.lookup y,unpackSlots Γ ts with | some i,some is=>some (i::is) | _,_=>none)=some is:=h
  rcases h1:Γ.sl.lookup y with _ | j
  · rw [h1] at h; exact nS h
  · rcases h2:unpackSlots Γ ts with _ | js
    · rw [h1,h2] at h; exact nS h
    · rw [h1,h2] at h; exact ⟨y,py,j,js,rfl,h1,rfl,(Option.some.inj h).symm⟩
theorem unpack_ok {ts:List PySem.Expr}:∀ {is:List Nat} {vs:List V} {us:List Value} {ρ:En},unpackSlots Γ ts=some is→Sim C (exF env) ((evr Γ env ρ).and (vrs vs us)) (wp C A (assignInOrder ((assignEach ts env).map (·.2)) us)) (lft (setLocs is vs ρ)) fun ρ' _=>evr Γ env ρ':=by
  induction ts with
  | nil =>
    intro is vs us ρ h
    cases h
    rcases vs with _ | _
    · exact Sim.rule (w':=fun Q s=>Q () s) (fun Q s h=>wpAny_pure h) (Sim.eq (f':=pur ρ) (Sim.pure fun _ p=>p.1) rfl)
    · exact Sim.non
  | cons e ts IH =>
    intro is vs us ρ h
    obtain ⟨y,py,j,js,rfl,hy,hjs,rfl⟩:=unpack_name h
    rcases vs with _ | ⟨v,vs⟩
    · exact Sim.non
    · intro σ I ⟨E,q⟩
      have q:All2 (VR σ.φ σ.h) (v::vs) us:=q
      cases q with
      | @cons _ u _ us qu qs =>
        show okR (lft (setLocs js vs (setLoc ρ j v)) σ.H) _
        refine okR_of fun ρ' H' e' Q k=>?_
        show wpAny _ A (do holding us (assign (.Name y py) env u); assignInOrder ((assignEach ts env).map (·.2)) us) _ _ _
        refine wpAny_bind (wpAny_holding (wpAny_assign_Name (okR_get (K:=fun _ H'=>∀ Q:Unit→Shared→Prop,(∀ a s',Aft C (slotAt env y) σ H' (evr (C:=C) Γ env (setLoc ρ j v)).p s'→Q a s')→wp C A (storeName env y u) Q σ.s) rfl (store_ok hy σ I ⟨E,qu⟩) _ fun _ s' ⟨φ',M,E'⟩=>?_)))
        have E:EnvR C Γ env ρ σ.φ σ.h:=E
        have F:=E.fr.sub (ex':=slotAt env y) fun _=>slot_ex
        exact okR_get e' (IH hjs ⟨φ',s',σ.H⟩ M.inv ⟨E',qs.mono fun _ _ z=>z.step M.st F.seq⟩) Q fun a s'' z=>k a s'' (z.from (M.mono fun _ _ _=>slot_ex))
theorem unpack_len {ts:List PySem.Expr}:∀ {is:List Nat} {vs:List V} {ρ ρ':En},unpackSlots Γ ts=some is→setLocs is vs ρ=some ρ'→(assignEach ts env).length=vs.length∧∀ p,p∈assignEach ts env→p.1=false:=by
  induction ts with
  | nil =>
    intro is vs ρ ρ' h h2
    cases h
    rcases vs with _ | _
    · exact ⟨rfl,nofun⟩
    · exact nS h2
  | cons e ts IH =>
    intro is vs ρ ρ' h h2
    obtain ⟨y,py,j,js,rfl,hy,hjs,rfl⟩:=unpack_name h
    rcases vs with _ | ⟨v,vs⟩
    · exact nS h2
    · have ⟨l,s⟩:=IH hjs (show setLocs js vs (setLoc ρ j v)=some ρ' from h2)
      refine ⟨congrArg (· + 1) l,fun p hp=>?_⟩
      have hp:p∈(false,assign (.Name y py) env)::assignEach ts env:=hp
      exact (List.mem_cons.mp hp).elim (fun z=>congrArg Prod.fst z) (s p)
theorem swapped_no {ts:List PySem.Expr} {q:Nat} (h:isTupleE e=false):swappedStores [.Tuple ts q tp] e env=pure none:=by
  cases e<;>first | rfl | exact nT h
theorem ss_AssignTuple {ts:List PySem.Expr} {is:List Nat} {q:Nat} (ht:Out t) (ih:SX C d m t) (c:Cf d A) (hc:isComp e=false) (hn:isTupleE e=false) (his:unpackSlots Γ ts=some is):SSe C d (m + 1) Γ env A ρ (.Assign [.Tuple ts q tp] e pos) (.unpack is (t Γ e)):=by
  rcases swap_or (Γ:=Γ) ht hc with hs | hs
  · refine Sim.rule (fun Q s h=>Assign_Tuple h (by show swapsWith e (some (.Tuple ts q tp)) pos.line env=pure false; exact hs) (swapped_no hn)) (Sim.bind (g:=tupR (unpR is ρ)) (ih Γ env A ρ e c) fun v u=>?_)
    intro σ I ⟨E,qv⟩
    have qv:VR σ.φ σ.h v u:=qv
    rcases v with _ | _ | _ | _ | vs | _ | _<;>try trivial
    obtain ⟨a,ws,n,ho,_,qs⟩:=qv
    show okR (bnd (lft (setLocs is vs ρ)) (fun ρ'=>pur (Fl.next,ρ')) σ.H) _
    refine okR_bnd (okR_of fun ρ' H' e'=>?_)
    intro Q k
    have hl:setLocs is vs ρ=some ρ':=by
      rcases z:setLocs is vs ρ with _ | y
      · rw [z] at e'; exact nS e'
      · rw [z] at e'; exact congrArg some (Prod.mk.inj (Option.some.inj e')).1
    have ⟨l1,l2⟩:=unpack_len (env:=env) his hl
    refine assign_Tuple_tuple c.hd ⟨_,ho,rfl,n,rfl⟩ (by rw [l1,arr_size qs.all]) (List.findIdx?_eq_none_iff.mpr l2) fun h' he=>?_
    have L:Le C (exF env) σ (σ.at h' σ.s.toks):=Le.grow I fun b o eb=>he b o (fun z=>nS ((z▸fresh_get).symm.trans eb)) eb
    have L0:Le C no σ (σ.at h' σ.s.toks):=Le.grow I fun b o eb=>he b o (fun z=>nS ((z▸fresh_get).symm.trans eb)) eb
    exact okR_get e' (unpack_ok his (σ.at h' σ.s.toks) L.inv ⟨(evr Γ env ρ).up L0 E,(vrs vs ws.toList).up L0 qs.all⟩) _ fun _ s' z=>k _ _ (by
      obtain ⟨φ',M,E'⟩:=z.from L
      exact ⟨φ',M,E',trivial⟩)
  · exact Sim.badX (g:=tupR (unpR is ρ)) hs
end
end Mine
end
section
open PySem PySem.W PySem.Calls PyProof.Rows
namespace Mine
section
variable {C:Ctx} {d m:Nat} {A:Around} {ex ex':Addr→Prop} {Γ:Cx} {env:Env} {ρ ρ':En} {t:Cx→PySem.Expr→X} {ts:PySem.Stmt→S} {pos cpos tp px py:Pos} {σ σ₀:Wo} {v:V} {u a:Value} {x y nm:Str} {i f:Nat} {e o it:PySem.Expr} {st:PySem.Stmt} {sc:Scope} {elt iter:PySem.Expr} {ifs:List PySem.Expr} {cond:Option X} {J:Addr} {g:Hp→Option (List V)} {b:List PySem.Stmt} {r:Fl×En} {Hf:Hp}
theorem ss_AssignComp (St:Stat C) (ht:Out t) (ih:SX C d m t) (iT:ST C d m t) (c:Cf d A) (O:CompOk Γ x sc) (hi:trIfs (t (compCx Γ x sc)) ifs=some cond) (hy:Γ.sl.lookup y=some i)
    (hs:swapsWith (.ListComp elt [⟨.Name x px,iter,ifs,0⟩] sc cpos) (some (.Name y py)) pos.line env=pure true) :
    SSe C d (m + 1 + 1) Γ env A ρ (.Assign [.Name y py] (.ListComp elt [⟨.Name x px,iter,ifs,0⟩] sc cpos) pos) (.asg i (.comp (t (compCx Γ x sc) elt) (trSrc C.W Γ (t Γ) iter).1 (trSrc C.W Γ (t Γ) iter).2 cond)):=by
  intro σ I E
  have E:EnvR C Γ env ρ σ.φ σ.h:=E
  refine okR_bnd (f:=runX C d (m + 1) _ ρ) (g:=fun v=>pur (Fl.next,setLoc ρ i v)) (okR_mono (comp_core (pos:=cpos) (px:=px) (use:=some (assign (.Name y py) env)) (fp:=firstIterPos [⟨.Name x px,iter,ifs,0⟩] cpos) St ih iT c (fun Γ a b c=>ht Γ _ rfl) O hi E I) fun v H' z Q K=>?_)
  show wpAny _ _ (exec _ _) _ _ _
  rw [exec_Assign_Name_used _ _ _ _ hs]
  refine wpAny_bind (wpAny_standAt (wpAny_bind ?_))
  show wpAny _ A (do let _ ← comprehension (.ListComp elt [⟨.Name x px,iter,ifs,0⟩] sc cpos) sc env _ (newList []) false (eval iter env) (some (assign (.Name y py) env))) _ _ σ.s
  refine wpAny_bind (wpAny_mono (z (fun _ s'=>Q .next s') fun D a s₂ φ₂ W=>?_) (fun _ s' hq=>wpAny_pure (wpAny_pure hq)) fun _ _ x=>x)
  show wpAny _ A (assign (.Name y py) env D) _ _ _
  obtain ⟨mm,hm⟩:=W.ns
  have nsC:=Ns_notSeq hm
  have E₂:=E.step W.le.st
  obtain ⟨mo,hmo,_⟩:=E.loc
  have neC:¬ exF env a:=by
    rintro (rfl | ⟨z,hz⟩)
    · obtain ⟨_,_,_,ho,_⟩:=hmo; exact nS (W.new.symm.trans ho)
    · obtain ⟨_,_,ho,_⟩:=E.clive z a hz; exact nS (W.new.symm.trans ho)
  refine wpAny_assign_Name (okR_get (K:=fun _ H'=>∀ Q:Unit→Shared→Prop,(∀ a s',Aft C (slotAt env y) ⟨φ₂,s₂,H'⟩ H' (evr (C:=C) Γ env (setLoc ρ i v)).p s'→Q a s')→wp C A (storeName env y D) Q s₂) rfl (store_ok hy ⟨φ₂,s₂,H'⟩ W.le.inv ⟨E₂,W.val⟩) _ fun _ s' ⟨φ',M,E'⟩=>?_)
  obtain ⟨oC,es,ep,hC,rC⟩:=hm
  have hC':=M.st.keep a oC hC W.own fun z=>neC (slot_ex z)
  refine ⟨mm,⟨oC,es,ep,hC',rC⟩,fun h' sb=>?_⟩
  have ns':¬ SeqOb s'.heap a:=Ns_notSeq ⟨oC,es,ep,hC',rC⟩
  have own':¬ Own φ' a:=M.st.notOwn hC W.own
  have F:Fr C ⟨φ',s',H'⟩ (fun b=>b=a):=⟨fun b s e=>ns' (e▸s),fun b e=>e▸own',fun b e=>e▸W.base⟩
  have keep:∀ b o,b≠a→s'.heap.get? b=some o→h'.get? b=some o:=fun b o n e=>(sb.2 b n).trans e
  exact K _ _ (Aft.at (σ':=Wo.at ⟨φ',s',H'⟩ h' s'.toks) ((W.le.any.trans (M.mono fun _ _ _=>slot_ex)).move F (fun b e=>e▸W.new) fun b o n e=>keep b o n e)
    ⟨EnvR.keep (show EnvR C Γ env (setLoc ρ i v) φ' s'.heap from E') (same_step sb) F.seq fun b z e=>neC (e▸z),trivial⟩)
set_option tactic.hygienic true in
theorem tr_comp {W:Wd} {k:Nat} {gens:List Comprehension} {K:X→Prop} (h0:K .bad) (h:∀ k' x px iter ifs c,k=k' + 1→gens=[⟨.Name x px,iter,ifs,0⟩]→CompOk Γ x sc→trIfs (tr W k' (compCx Γ x sc)) ifs=some c →
    K (.comp (tr W k' (compCx Γ x sc) elt) (trSrc W Γ (tr W k' Γ) iter).1 (trSrc W Γ (tr W k' Γ) iter).2 c)):K (tr W k Γ (.ListComp elt gens sc cpos)):=by
  rcases k with _ | k
  · exact h0
  · show K (trComp W (tr W k) Γ elt sc gens)
    rcases gens with _ | ⟨⟨tg,iter,ifs,a⟩,_ | ⟨g,r⟩⟩
    · exact h0
    · cases tg<;>first | exact h0 | skip
      rename_i x px
      rcases a with (_ | a) | a
      · show K (_root_.cond (compOk Γ x sc) _ _)
        rcases O:compOk Γ x sc with _ | _
        · exact h0
        · show K (match trIfs (tr W k (compCx Γ x sc)) ifs with | some c=>_ | none=>.bad)
          rcases hi:trIfs (tr W k (compCx Γ x sc)) ifs with _ | c
          · exact h0
          · exact h k x px iter ifs c rfl rfl (compOk_iff O) hi
      · exact h0
      · exact h0
    · exact h0
set_option tactic.hygienic true in
theorem ss_Assign1 {k:Nat} (St:Stat C) (ih:∀ k,SX C d m (tr C.W k)) (ih':∀ n,m=n + 1→(∀ k,SX C d n (tr C.W k))∧∀ k,ST C d n (tr C.W k)) (c:Cf d A) (hx:Γ.sl.lookup x=some i):SSe C d (m + 1) Γ env A ρ (.Assign [.Name x px] e pos) (.asg i (tr C.W k Γ e)):=by
  rcases hc:isComp e with _ | _
  · rcases swap_or (Γ:=Γ) (tr_out (W:=C.W) k) hc with hs | hs
    · exact ss_AssignName (ih k) c hx hs
    · exact Sim.badX (g:=fun v=>pur (Fl.next,setLoc ρ i v)) hs
  · cases e<;>first | exact nB (show false=true from hc) | skip
    rename_i elt gens sc cpos
    obtain ⟨b,hb⟩:∃ b,swapsWith (.ListComp elt gens sc cpos) (some (.Name x px)) pos.line env=pure b:=⟨_,rfl⟩
    rcases b with _ | _
    · exact ss_AssignName (ih k) c hx hb
    · refine tr_comp (K:=fun y=>SSe C d (m + 1) Γ env A ρ (.Assign [.Name x px] (.ListComp elt gens sc cpos) pos) (.asg i y)) (Sim.badX (g:=fun v=>pur (Fl.next,setLoc ρ i v)) rfl) fun k' z pz iter ifs c' hk hg O hi=>?_
      subst hg
      rcases m with _ | m
      · exact Sim.non
      · exact ss_AssignComp St (tr_out k') ((ih' m rfl).1 k') ((ih' m rfl).2 k') c O hi hx hb
theorem ss_If {o:List PySem.Stmt} (iT:ST C d m t) (is:SS C d m Γ ts) (c:Cf d A):SSe C d (m + 1) Γ env A ρ (.If e b o pos) (.ite (t Γ e) (b.map ts) (o.map ts)):=by
  refine Sim.rule (fun Q s=>wpAny_If) (Sim.bind (f:=bnd (runX C d m (t Γ e) ρ) truR) (g:=fun z=>_root_.cond z (exs (runS C d m) (b.map ts) ρ) (exs (runS C d m) (o.map ts) ρ)) (iT Γ env A ρ e c) (Sim.bool ?_ ?_))
  · exact sb_ok is c b ρ
  · exact sb_ok is c o ρ
structure Loop (C:Ctx) (Γ:Cx) (env:Env) (σ₀:Wo) (f:Nat→En→Rn (Fl×En)) (r:Fl×En) (Hf:Hp) (n:Nat) (ρ:En) (σ:Wo):Prop where
  e:f n ρ σ.H=some (r,Hf)
  le:Le C (exF env) σ₀ σ
  env:EnvR C Γ env ρ σ.φ σ.h
@[elab_as_elim] theorem flow_cases {fl:Fl} {fw:Flow} {K:Fl→Flow→Prop} (q:(flr (C:=C) fl fw).p σ) (h1:K .next .next) (h2:K .cont .cont) (h3:∀ v u,VR σ.φ σ.h v u→K (.ret v) (.ret u)):K fl fw:=by
  rcases fl with _ | _ | v<;>cases fw<;>first | exact False.elim q | skip
  · exact h1
  · exact h2
  · exact h3 _ _ q
theorem while_ok {cT:En→Rn Bool} {fb:En→Rn (Fl×En)} (hT:∀ ρ,Sim C no (evr Γ env ρ) (wp C A (isTrue e env (eval e env))) (cT ρ) eqm) (hB:∀ ρ,Sim C (exF env) (evr Γ env ρ) (wp C A (execs b env)) (fb ρ) (enf Γ env)) :
    Sim C (exF env) (evr Γ env ρ) (wp C A (exec (.While e b [] pos) env)) (whiles cT fb lim ρ) (enf Γ env):=by
  intro σ I E
  refine okR_of fun r Hf e0=>?_
  intro Q K
  refine wpAny_While (codeAny_whileLoop (fun n s'=>∃ ρ₁ σ₁,s'=σ₁.s∧Loop C Γ env σ (whiles cT fb) r Hf n ρ₁ σ₁) ?_ lim ⟨ρ,σ,rfl,e0,Le.refl I,E⟩)
  rintro n _ ⟨ρ₁,σ₁,rfl,L⟩
  rcases n with _ | n
  · exact nS L.e
  obtain ⟨z,H₁,e1,e2⟩:=bnd_some (f:=cT ρ₁) L.e
  refine loose (okR_get e1 (hT ρ₁ σ₁ L.le.inv L.env) _ fun z' s₂ z=>z) fun z' s₂ ⟨φ₂,L₂,q⟩=>?_
  have q:z'=z:=q
  subst q
  have LL:=L.le.trans L₂.any
  have E₂:=L.env.step L₂.st
  rcases z' with _ | _
  · cases e2
    exact wpAny_execs_nil (K _ _ ⟨φ₂,LL,E₂,trivial⟩)
  · obtain ⟨⟨fl,ρ₂⟩,H₂,e3,e4⟩:=bnd_some (f:=fb ρ₁) (g:=fun p=>match p.1 with | .ret _=>pur p | _=>whiles cT fb n p.2) e2
    refine loose (okR_get e3 (hB ρ₁ ⟨φ₂,s₂,H₁⟩ LL.inv E₂) _ fun f s₃ z=>z) fun f s₃ ⟨φ₃,L₃,E₃,q⟩=>?_
    have L3:=LL.trans L₃
    clear LL L₃ L₂ L e1 e2 e3
    revert e4
    refine flow_cases (fl:=fl) q ?_ ?_ ?_
    · exact fun e=>⟨n,Nat.lt_succ_self _,ρ₂,⟨φ₃,s₃,H₂⟩,rfl,e,L3,E₃⟩
    · exact fun e=>⟨n,Nat.lt_succ_self _,ρ₂,⟨φ₃,s₃,H₂⟩,rfl,e,L3,E₃⟩
    · intro v u z e
      cases e
      exact K _ _ ⟨φ₃,L3,E₃,z⟩
theorem ss_While (iT:ST C d m t) (is:SS C d m Γ ts) (c:Cf d A):SSe C d (m + 1) Γ env A ρ (.While e b [] pos) (.while (t Γ e) (b.map ts)) :=
  while_ok (cT:=fun ρ=>bnd (runX C d m (t Γ e) ρ) truR) (fun ρ=>iT Γ env A ρ e c) fun ρ=>sb_ok is c b ρ
structure FLoop (C:Ctx) (Γ:Cx) (env:Env) (σ₀:Wo) (fb:En→Rn (Fl×En)) (g:Hp→Option (List V)) (i:Nat) (J:Addr) (r:Fl×En) (Hf:Hp) (n:Nat) (k:Nat) (ρ:En) (σ:Wo):Prop where
  e:fors fb g i n k ρ σ.H=some (r,Hf)
  le:Le C (exF env) σ₀ σ
  env:EnvR C Γ env ρ σ.φ σ.h
  it:ItM C σ₀ g k J σ
theorem for_ok {fb:En→Rn (Fl×En)} {R:Result→Shared→Prop} (hh:A.handled=none) (hx:Γ.sl.lookup x=some i) (hJ:¬ exF env J) (hB:∀ ρ,Sim C (exF env) (evr Γ env ρ) (wp C A (execs b env)) (fb ρ) (enf Γ env))
    (K:∀ f s,Aft C (exF env) σ₀ Hf (enf (C:=C) Γ env r f).p s→R (.ok f) s) {n k:Nat} (L:FLoop C Γ env σ₀ fb g i J r Hf n k ρ σ):codeAny (model C.prog C.w) A (.forLoop (.Name x px) (.ref J) b [] env) R σ.s:=by
  refine codeAny_forLoop_any (fun n s'=>∃ k ρ₁ σ₁,s'=σ₁.s∧FLoop C Γ env σ₀ fb g i J r Hf n k ρ₁ σ₁) ?_ n ⟨k,ρ,σ,rfl,L⟩
  clear L
  rintro n _ ⟨k,ρ,σ,rfl,L⟩
  rcases n with _ | n
  · exact nS L.e
  rcases hg:g σ.H with _ | vs
  · have e:(match g σ.H with | none=>none | some vs=>_)=some (r,Hf):=L.e
    rw [hg] at e; exact nS e
  have e:(match g σ.H with | none=>none | some vs=>match vs[k]? with | none=>some ((Fl.next,ρ),σ.H) | some v=>bnd (fb (setLoc ρ i v)) (fun p=>match p.1 with | .ret _=>pur p | _=>fors fb g i n (k + 1) p.2) σ.H)=some (r,Hf):=L.e
  rw [hg] at e
  have FJ:Fr C σ (fun b=>b=J):=⟨fun a s e=>L.it.it.notSeq (e▸s),fun a e=>e▸L.it.own,fun a e=>e▸L.it.base⟩
  have move:∀ {h':Heap} {tk:Nat},(∀ b o,b≠J→σ.h.get? b=some o→h'.get? b=some o)→Le C (exF env) σ₀ (σ.at h' tk)∧EnvR C Γ env ρ σ.φ h':=fun hk =>
    ⟨L.le.move FJ (fun a e=>e▸L.it.new) fun b o n=>hk b o n,L.env.keep (Step.at (ex:=fun b=>b=J) fun b o n=>hk b o n) FJ.seq fun a x e=>hJ (e▸x)⟩
  refine L.it.it.next hh L.le.inv hg (fun w y h' tk hv qu J' hk=>?_) fun h' tk hv hk=>?_
  · obtain ⟨L1,E1⟩:=move (tk:=tk) hk
    dsimp only at e; rw [hv] at e; dsimp only at e
    obtain ⟨⟨fl,ρ₂⟩,H₂,e3,e4⟩:=bnd_some e
    refine wpAny_of_eq (a:=()) rfl ?_
    refine loose (wpAny_assign_Name (okR_get (K:=fun _ H'=>∀ Q:Unit→Shared→Prop,(∀ a s',Aft C (slotAt env x) (σ.at h' tk) H' (evr (C:=C) Γ env (setLoc ρ i w)).p s'→Q a s')→wp C A (storeName env x y) Q (σ.at h' tk).s) rfl (store_ok hx (σ.at h' tk) L1.inv ⟨E1,qu⟩) _ fun _ s2 z=>z)) fun _ s₂ ⟨φ₂,N,E₂⟩=>?_
    have LL:=L1.trans (N.mono fun _ _ _=>slot_ex)
    have M₂:ItM C σ₀ g (k + 1) J ⟨φ₂,s₂,σ.H⟩:=ItM.step (σ:=σ.at h' tk) ⟨J',L.it.new,L.it.own,L.it.base⟩ N fun z=>hJ (slot_ex z)
    refine loose (okR_get e3 (hB _ ⟨φ₂,s₂,σ.H⟩ LL.inv E₂) _ fun f s₃ z=>z) fun f s₃ ⟨φ₃,L₃,E₃,q⟩=>?_
    have L3:=LL.trans L₃
    have M3:=M₂.step L₃ hJ
    clear LL L₃ N L e E₂ M₂ e3 move L1 E1 J' qu
    revert e4
    refine flow_cases (fl:=fl) q ?_ ?_ ?_
    · exact fun e=>⟨n,Nat.lt_succ_self _,k + 1,ρ₂,⟨φ₃,s₃,H₂⟩,rfl,e,L3,E₃,M3⟩
    · exact fun e=>⟨n,Nat.lt_succ_self _,k + 1,ρ₂,⟨φ₃,s₃,H₂⟩,rfl,e,L3,E₃,M3⟩
    · intro v u z e
      cases e
      exact K _ _ ⟨φ₃,L3,E₃,z⟩
  · obtain ⟨L1,E1⟩:=move (tk:=tk) hk
    dsimp only at e; rw [hv] at e; dsimp only at e
    cases e
    exact wpAny_execs_nil (K _ _ ⟨σ.φ,L1,E1,trivial⟩)
theorem ss_For (St:Stat C) (ht:Out t) (ih:SX C d m t) (is:SS C d m Γ ts) (c:Cf d A) (hx:Γ.sl.lookup x=some i):SSe C d (m + 1) Γ env A ρ (.For (.Name x px) iter b [] pos) (.forr i (trSrc C.W Γ (t Γ) iter).1 (trSrc C.W Γ (t Γ) iter).2 (b.map ts)):=by
  intro σ I E
  have E:EnvR C Γ env ρ σ.φ σ.h:=E
  show okR (bnd (evs (runX C d m) ρ (trSrc C.W Γ (t Γ) iter).2) (fun vs=>bnd (srcR (trSrc C.W Γ (t Γ) iter).1 vs) fun g=>fors (exs (runS C d m) (b.map ts)) g i lim 0 ρ) σ.H) _
  rw [← bnd_assoc]
  refine okR_bnd (okR_of fun g H₁ e0=>okR_of fun r Hf e1=>?_)
  have z:=okR_get e0 (src_ok (σ₀:=σ) St ih c σ I ⟨E,fun _=>id⟩)
  have hs:=okR_get e0 (src_noset (env:=env) ih c fun Γ a b c=>ht Γ _ rfl)
  intro Q K
  refine wpAny_For (z _ fun iv s₂ ⟨φ₂,L₂,J,hiv,M₂⟩=>?_) hs
  subst hiv
  have hJ:¬ exF env J:=by
    rintro (e | ⟨y,hy⟩)
    · obtain ⟨m,⟨o,_,_,ho,_⟩,_⟩:=E.loc
      exact nS ((e▸M₂.new).symm.trans ho)
    · obtain ⟨vo,o,ho,_⟩:=E.clive y J hy
      exact nS (M₂.new.symm.trans ho)
  exact for_ok (σ:=⟨φ₂,s₂,H₁⟩) c.hd hx hJ (fun ρ=>sb_ok is c b ρ) K ⟨e1,L₂.any,E.step L₂.st,M₂⟩
set_option tactic.hygienic true in
theorem ss_step {k:Nat} (St:Stat C) (ih:∀ k,SX C d m (tr C.W k)) (iT:∀ k,ST C d m (tr C.W k)) (ih':∀ n,m=n + 1→(∀ k,SX C d n (tr C.W k))∧∀ k,ST C d n (tr C.W k)) (is:SS C d m Γ ts):SS C d (m + 1) Γ (stepTS C.W Γ (tr C.W k Γ) ts):=by
  intro env A ρ st c
  have ht:=tr_out (W:=C.W) k
  cases st<;>first | exact SSe.bad | skip
  · rename_i e pos
    rcases e with _ | e
    · exact ss_Return0
    · exact ss_Return (ih k) c
  · rename_i tgs e pos
    rcases tgs with _ | ⟨tg,_ | ⟨t2,r⟩⟩
    · exact SSe.bad
    · cases tg<;>first | exact SSe.bad | skip
      · exact SSe.dnoc fun hc=>SSe.attr fun f hf=>ss_AssignAttr St ht (ih k) c hc hf
      · exact SSe.dnoc fun h=>ss_AssignSub ht (ih k) c (Bool.or_eq_false_iff.mp h).1
      · exact SSe.slot fun i hx=>ss_Assign1 St ih ih' c hx
      · rename_i es q tp
        refine SSe.dnoc fun h=>?_
        rcases his:unpackSlots Γ es with _ | is'
        · exact SSe.bad
        · exact ss_AssignTuple ht (ih k) c (Bool.or_eq_false_iff.mp h).1 (Bool.or_eq_false_iff.mp h).2 his
    · exact SSe.bad
  · rename_i tg op e pos
    cases tg<;>first | exact SSe.bad | skip
    · exact SSe.attr fun f hf=>ss_AugAttr St (ih k) c hf
    · exact SSe.dnoc fun h=>ss_AugSub (ih k) c h
    · exact SSe.slot fun i hx=>ss_AugName (ih k) c hx
  · rename_i tg iter b o pos
    rcases o with _ | ⟨s,o⟩
    · cases tg<;>first | exact SSe.bad | skip
      exact SSe.slot fun i hx=>ss_For St ht (ih k) is c hx
    · exact SSe.bad
  · rename_i e b o pos
    rcases o with _ | ⟨s,o⟩
    · exact ss_While (iT k) is c
    · exact SSe.bad
  · exact ss_If (iT k) is c
  · exact SSe.dnoc fun hc=>ss_Expr ht (ih k) c hc
  · exact Sim.rule (fun Q s=>wpAny_Pass) next_ok
  · exact Sim.rule (fun Q s=>wpAny_Continue) (Sim.pure fun _ p=>⟨p,trivial⟩)
end
end Mine
end
section
open PySem PySem.W PySem.Calls PyProof.Rows
namespace Mine
section
variable {C:Ctx} {d m:Nat} {A:Around} {Γ:Cx} {env:Env} {σ:Wo} {s₁:Shared} {pars:List Str} {sc:Scope} {us:List Value} {vs:List V} {x:Str} {kindOf:Str→Option NameKind}
theorem slots_ix {l:List Str}:∀ {i j:Nat},(slotsFrom l i).lookup x=some j→∃ k,j=i + k∧l[k]?=some x:=by
  induction l with
  | nil=>exact fun e=>nS e
  | cons y ys ih =>
    intro i j
    refine lookup_at (x:=x) (y:=y) (b:=i) (l:=slotsFrom ys (i + 1)) (K:=fun o=>o=some j→∃ k,j=i + k∧(y::ys)[k]?=some x) (fun e z=>⟨0,(Option.some.inj z).symm,congrArg some e.symm⟩) fun _ z=>?_
    obtain ⟨k,e1,e2⟩:=ih z
    exact ⟨k + 1,by lia,e2⟩
theorem slot_get {l:List Str} {j:Nat} (e:(slotsFrom l 0).lookup x=some j):l[j]?=some x:=by
  obtain ⟨k,e1,e2⟩:=slots_ix e
  rw [e1,Nat.zero_add]; exact e2
theorem bindL_no {bs:List (Str×Value)}:(∀ p,p∈bs→p.1≠x)→∀ m:Str→Option Value,bindL kindOf bs m x=m x:=by
  induction bs with
  | nil=>exact fun _ _=>rfl
  | cons p bs ih =>
    intro h m
    obtain ⟨y,u⟩:=p
    refine (ih (fun p hp=>h p (.tail _ hp)) _).trans ?_
    by_cases e:kindOf y=some .local
    · rw [if_pos e]; exact if_neg (h (y,u) (.head _)).symm
    · rw [if_neg e]
theorem bindC_no {bs:List (Str×Value)}:(∀ p,p∈bs→p.1≠x)→∀ m:Str→Option Value,bindC kindOf bs m x=m x:=by
  induction bs with
  | nil=>exact fun _ _=>rfl
  | cons p bs ih =>
    intro h m
    obtain ⟨y,u⟩:=p
    refine (ih (fun p hp=>h p (.tail _ hp)) _).trans ?_
    by_cases e:kindOf y=some .local
    · rw [if_pos e]
    · rw [if_neg e]; exact if_neg (h (y,u) (.head _)).symm
theorem bind_at {u:Value} {ps:List Str}:∀ {us:List Value} {i:Nat} {m:Str→Option Value},ps.Nodup→ps[i]?=some x→us[i]?=some u →
    (kindOf x=some .local→bindL kindOf (ps.zip us) m x=some u)∧(¬ kindOf x=some .local→bindC kindOf (ps.zip us) m x=some u):=by
  induction ps with
  | nil=>exact fun _ e=>nS e
  | cons p ps ih =>
    intro us i m nd e1 e2
    have nd:=List.nodup_cons.mp nd
    rcases us with _ | ⟨w,us⟩
    · exact nS e2
    rcases i with _ | i
    · have e1:p=x:=Option.some.inj e1
      have e2:w=u:=Option.some.inj e2
      subst e1 e2
      have hno:∀ q,q∈ps.zip us→q.1≠p:=fun q hq e=>nd.1 (e▸(List.of_mem_zip (a:=q.1) (b:=q.2) hq).1)
      exact ⟨fun hk=>(bindL_no hno _).trans (by rw [if_pos hk]; exact if_pos rfl),fun hk=>(bindC_no hno _).trans (by rw [if_neg hk]; exact if_pos rfl)⟩
    · exact ⟨fun hk=>(ih (m:=if kindOf p=some .local then _ else _) nd.2 e1 e2).1 hk,fun hk=>(ih (m:=if kindOf p=some .local then _ else _) nd.2 e1 e2).2 hk⟩
theorem cellsFrom_some {names:List (Str×NameKind)}:∀ {m:Nat} {acc:List (Str×Addr)},(x,NameKind.cell)∈names∨(acc.lookup x).isSome=true→((cellsFrom m names acc).lookup x).isSome=true:=by
  induction names with
  | nil=>exact fun h=>h.resolve_left nofun
  | cons p r ih =>
    intro m acc h
    obtain ⟨y,kd⟩:=p
    show (List.lookup x (if (kd == NameKind.cell)=true then cellsFrom (m + 1) r ((y,m)::acc) else cellsFrom m r acc)).isSome=true
    by_cases hk:(kd == NameKind.cell)=true
    · rw [if_pos hk]
      refine ih (lookup_at (K:=fun o=>(x,NameKind.cell)∈r∨o.isSome=true) (fun _=>.inr rfl) fun ne=>h.imp_left fun z=>?_)
      exact (List.mem_cons.mp z).resolve_left fun e=>ne (Prod.mk.inj e).1
    · rw [if_neg hk]
      exact ih (h.imp_left fun z=>(List.mem_cons.mp z).resolve_left fun e=>hk (by rw [← (Prod.mk.inj e).2]; rfl))
structure ScOk (pars:List Str) (sc:Scope):Prop where
  kind:sc.kind=.function
  co:sc.isCoroutine=false
  gen:sc.isGenerator=false
  nd:(sc.names.map (·.1)).Nodup
  sl:(slotNames pars sc.names).Nodup
  par:∀ x,x∈pars→sc.names.lookup x=some .local∨sc.names.lookup x=some .cell
theorem or_tt {a b:Bool} (h:(a || b)=true):a=true∨b=true:=by
  rcases a with _ | _
  · exact .inr h
  · exact .inl rfl
theorem no_tt {b:Bool} (h:(!b)=true):b=false:=by
  rcases b with _ | _
  · rfl
  · exact nB h
theorem scopeOk_iff (e:scopeOk pars sc=true):ScOk pars sc:=by
  have ⟨e,_⟩:=and_tt e
  have ⟨e,g⟩:=and_tt e
  have ⟨e,f⟩:=and_tt e
  have ⟨e,d⟩:=and_tt e
  have ⟨e,c⟩:=and_tt e
  have ⟨a,b⟩:=and_tt e
  exact ⟨eq_of_beq a,no_tt b,no_tt c,of_decide_eq_true d,of_decide_eq_true f,fun x hx=>(or_tt (List.all_eq_true.mp g x hx)).imp eq_of_beq eq_of_beq⟩
theorem slot_kind (O:ScOk pars sc) {i:Nat} (e:(slotNames pars sc.names)[i]?=some x):sc.names.lookup x=some .local∨sc.names.lookup x=some .cell:=by
  rcases List.mem_append.mp (List.mem_of_getElem? e) with q | q
  · exact O.par x q
  · obtain ⟨⟨y,k⟩,hp,rfl⟩:=List.mem_map.mp q
    obtain ⟨h1,h2⟩:=List.mem_filter.mp hp
    have z:=lookup_nodup O.nd h1
    exact (or_tt (and_tt h2).1).imp (fun e=>z.trans (congrArg some (eq_of_beq e))) fun e=>z.trans (congrArg some (eq_of_beq e))
theorem env_get {k:Nat} {v:V}:∀ {i:Nat},(vs.map some++List.replicate k none)[i]?=some (some v)→vs[i]?=some v:=by
  induction vs with
  | nil=>exact fun e=>nN ((List.mem_replicate.mp (List.mem_of_getElem? e)).2)
  | cons w vs ih =>
    intro i e
    rcases i with _ | i
    · exact Option.some.inj e
    · exact ih e
structure Fresh (sc:Scope) (env:Env) (h:Heap):Prop where
  kind:env.scope.kind=.function
  glob:env.globals=mainGlobals
  blt:env.builtins=builtinsNs
  kof:∀ y,env.kindOf y=sc.names.lookup y
  loc:env.locals=h.objs.size
  cel:∀ y,sc.names.lookup y=some .cell→(env.cells.lookup y).isSome=true
theorem fn_env (O:ScOk pars sc) (F:Fresh sc env σ.h) (hl:us.length=pars.length) (I:Inv C σ) (q:All2 (VR σ.φ σ.h) vs us)
    (x:InCallC σ.s env.locals (bindL env.kindOf (pars.zip us) fun _=>none) env.cells (bindC env.kindOf (pars.zip us) fun _=>none) s₁) :
    EnvR C (fnCx pars sc) env (vs.map some++List.replicate ((fnCx pars sc).n - pars.length) none) σ.φ s₁.heap∧∀ b,exF env b→σ.h.get? b=none:=by
  have dL:σ.h.get? env.locals=none:=Heap.get?_none_of_le (F.loc▸Nat.le_refl _)
  have dC:∀ y c,env.cells.lookup y=some c→σ.h.get? c=none:=fun y c hc=>Heap.get?_none_of_le (F.loc▸Nat.le_of_lt (x.above y c (mem_of_lookup hc)))
  have S:Step no σ.φ σ.h σ.φ s₁.heap:=Step.of_keeps x.toInCall.keep
  have pn:=(List.nodup_append.mp O.sl).1
  refine ⟨⟨⟨F.kind,F.glob,F.blt,fun y hy=>(F.kof y).trans hy,fun y hy=>(F.kof y).trans hy,fun y i hy=>(List.getElem?_eq_some_iff.mp (slot_get hy)).1,fun y z i hy hz=>Option.some.inj ((slot_get hy).symm.trans (slot_get hz)),
      fun y z c hy hz=>name_of_addr x.apart (mem_of_lookup hy) (mem_of_lookup hz),I.notBase dL,fun y c hc=>I.notBase (dC y c hc)⟩,?_,⟨_,x.toInCall.ns,fun y i hy=>?_⟩,I.notOwn dL,fun y c hc=>I.notOwn (dC y c hc),fun y c hc=>⟨_,x.cell y c hc⟩⟩,?_⟩
  · have hn:pars.length≤(slotNames pars sc.names).length:=by unfold slotNames; rw [List.length_append]; exact Nat.le_add_right ..
    rw [List.length_append,List.length_map,List.length_replicate,q.length,hl]
    exact Nat.add_sub_cancel' hn
  · have hs:=slot_get hy
    have val:∀ v,(vs.map some++List.replicate ((fnCx pars sc).n - pars.length) (none:Option V))[i]?=some (some v)→∃ u,pars[i]?=some y∧us[i]?=some u∧VR σ.φ s₁.heap v u:=fun v hv=>by
      obtain ⟨u,e1,e2⟩:=q.get' (env_get hv)
      have hi:=(List.getElem?_eq_some_iff.mp e1).1
      exact ⟨u,(List.getElem?_append_left (hl▸hi)).symm.trans hs,e1,e2.step S no_seq⟩
    rcases slot_kind O hs with hk | hk
    · refine .loc ((F.kof y).trans hk) fun v hv=>?_
      obtain ⟨u,e1,e2,e3⟩:=val v hv
      exact ⟨u,(bind_at pn e1 e2).1 ((F.kof y).trans hk),e3⟩
    · obtain ⟨c,hc⟩:=Option.isSome_iff_exists.mp (F.cel y hk)
      refine .cell c _ ((F.kof y).trans hk) hc (x.cell y c hc) fun v hv=>?_
      obtain ⟨u,e1,e2,e3⟩:=val v hv
      exact ⟨u,(bind_at pn e1 e2).2 (fun z=>nomatch ((F.kof y).trans hk).symm.trans z),e3⟩
  · rintro b (rfl | ⟨y,hy⟩)
    · exact dL
    · exact dC y b hy
set_option backward.match.sparseCases true in
theorem sf_step (St:Stat C) (is:∀ Γ k,SS C d C.T.fuel Γ (trS C.W Γ k)):SF C (d + 1):=by
  intro A i a vs us c hi σ I q
  obtain ⟨fi,hfi,oc,od,osl,name,qual,as,body,sc,doc,pm,an,cd,ct,fuel,hK,hnd,hnp,hcd,hsc,hnl,hfc,_⟩:=St.fns i a hi
  refine okR_bnd (okR_lft (ok_of fun fi' e=>?_))
  cases Option.some.inj (hfi.symm.trans e)
  refine okR_grd fun hlen=>?_
  have q:All2 (VR σ.φ σ.h) vs us:=q
  have hul:us.length=(arN as).length:=(q.length.symm.trans (Nat.eq_of_beq_eq_true hlen)).trans hnp.symm
  have O:=scopeOk_iff hsc
  have X:=I.kin St
  have F:Fresh sc (callEnvC (fdOf name qual as body sc doc pm an cd ct) σ.h.objs.size a) σ.h:=⟨O.kind,rfl,rfl,fun _=>rfl,rfl,fun y hy=>cellsFrom_some (.inl (mem_of_lookup hy))⟩
  rw [hfc,← hnl,← hnp]
  refine okR_bnd (okR_of fun p H' e1 Q K=>?_)
  refine codeAny_call_cells c.below (X _ _ hK) rfl (St.lim.keeps I.base) (codeRec_of X hcd) rfl (bind_pos hnd hul) rfl (fun p hp=>?_) (fun s₁ x=>?_) O.co O.gen O.kind
  · exact (O.par _ (List.of_mem_zip (a:=p.1) (b:=p.2) hp).1).imp_right fun z=>⟨z,F.cel _ z⟩
  · revert F x
    generalize callEnvC (fdOf name qual as body sc doc pm an cd ct) σ.h.objs.size a=env
    intro F x
    obtain ⟨E,dd⟩:=fn_env O F hul I q x
    obtain ⟨hh,tk,rfl⟩:=x.toInCall.same
    have L₁:Le C (exF env) σ ⟨σ.φ,Sh.on σ.s hh tk,σ.H⟩:=Le.grow I x.toInCall.keep
    have z:=okR_get e1 (sb_ok (env:=env) (is _ fuel) (c.deeper (env:=env)) body _ ⟨σ.φ,Sh.on σ.s hh tk,σ.H⟩ L₁.inv E)
    refine wpAny_mono (z _ fun f s' y=>y) (fun f s' ⟨φ',L,_,qf⟩=>?_) fun _ _ x=>x.elim
    have LL:Le C no σ ⟨φ',s',H'⟩:=(L₁.trans L).mono fun a o e y=>nS ((dd a y).symm.trans e)
    obtain ⟨fl,ρ'⟩:=p
    exact ⟨_,rfl,K _ _ ⟨φ',LL,flow_cases (fl:=fl) (fw:=f) (K:=fun fl f=>VR φ' s'.heap (flV fl) (match f with | .ret v=>v | _=>.none)) qf (Eq.refl Value.none) (Eq.refl Value.none) fun v u y=>y⟩⟩
structure All (C:Ctx) (d m:Nat):Prop where
  x:∀ k,SX C d m (tr C.W k)
  t:∀ k,ST C d m (tr C.W k)
  s:∀ Γ k,SS C d m Γ (trS C.W Γ k)
theorem all_step (St:Stat C) (ihf:SF C d) (a:All C d m) (b:∀ n,m=n + 1→All C d n):All C d (m + 1):=by
  have X:∀ k,SX C d (m + 1) (tr C.W k):=fun k=>by
    rcases k with _ | k
    · exact fun Γ env A ρ e c=>SXe.bad
    · exact sx_step St (a.x k) (a.t k) ihf (fun Γ a b c=>tr_out k Γ _ rfl)
  refine ⟨X,fun k=>?_,fun Γ k=>?_⟩
  · rcases k with _ | k
    · exact fun Γ env A ρ e c=>Sim.badX rfl
    · exact st_step (a.x k) (X (k + 1)) (a.t k)
  · rcases k with _ | k
    · exact fun env A ρ st c=>SSe.bad
    · exact ss_step St a.x a.t (fun n e=>⟨(b n e).x,(b n e).t⟩) (a.s Γ k)
theorem all_of (St:Stat C) (ihf:SF C d):∀ m,All C d m∧∀ n,m=n + 1→All C d n:=by
  intro m
  induction m with
  | zero=>exact ⟨⟨fun k Γ env A ρ e c=>Sim.non,fun k Γ env A ρ e c=>Sim.non,fun Γ k env A ρ st c=>Sim.non⟩,fun n e=>nomatch e⟩
  | succ m ih=>exact ⟨all_step St ihf ih.1 ih.2,fun n e=>Nat.succ.inj e▸ih.1⟩
theorem sound (St:Stat C):∀ d,SF C d:=by
  intro d
  induction d with
  | zero=>exact fun A i a vs us c hi=>Sim.non
  | succ d ih=>exact sf_step St (all_of St ih C.T.fuel).1.s
end
end Mine
end
section
open PySem PySem.W PySem.Calls PyProof.Rows
namespace Mine
noncomputable def noV:Value→Bool
  | .none=>true
  | _=>false
noncomputable def bodyOf:FuncBody→List PySem.Stmt
  | .stmts b=>b
  | .expr _=>[]
noncomputable def isSt:FuncBody→Bool
  | .stmts _=>true
  | .expr _=>false
noncomputable def plainFn (fd:FuncData):Bool:=fd.params.posonlyargs.isEmpty && (fd.params.vararg.isNone && (fd.params.kwonlyargs.isEmpty && (fd.params.kw_defaults.isEmpty && (fd.params.kwarg.isNone && (fd.params.defaults.isEmpty &&
  (isSt fd.body && (fd.closure.isEmpty && (noV fd.defaults && (noV fd.kwdefaults && (fd.globals == mainGlobals && fd.builtins == builtinsNs))))))))))
section
variable {α:Type} {o:Option α} {l:List α} {v:Value} {b:FuncBody}
theorem nil_e (h:l.isEmpty=true):l=[]:=by
  rcases l with _ | _
  · rfl
  · exact nB h
theorem non_e (h:o.isNone=true):o=none:=by
  rcases o with _ | _
  · rfl
  · exact nB h
theorem noV_e (h:noV v=true):v=.none:=by
  cases v<;>first | rfl | exact nB h
theorem st_e (h:isSt b=true):b=.stmts (bodyOf b):=by
  cases b<;>first | rfl | exact nB h
end
theorem fd_eq {nm qn:Str} {q1 as q4:List PySem.Arg} {q3 q6:Option PySem.Arg} {q5:List (Option PySem.Expr)} {q7:List PySem.Expr} {bd:FuncBody} {b:List PySem.Stmt} {sc:Scope} {gl bt:Addr} {cl:List (Str×Addr)} {df kd dc pm cd ct:Value} {an:Option Addr}
    (h1:q1=[]) (h2:q3=none) (h3:q4=[]) (h4:q5=[]) (h5:q6=none) (h6:q7=[]) (h7:bd=.stmts b) (h8:cl=[]) (h9:df=.none) (h10:kd=.none) (h11:gl=mainGlobals) (h12:bt=builtinsNs) :
    FuncData.mk nm qn ⟨q1,as,q3,q4,q5,q6,q7⟩ bd sc gl cl df kd dc pm an cd ct bt=fdOf nm qn as b sc dc pm an cd ct:=by
  subst h1 h2 h3 h4 h5 h6 h7 h8 h9 h10 h11 h12; rfl
theorem par_eta (p:Arguments):p=⟨p.posonlyargs,p.args,p.vararg,p.kwonlyargs,p.kw_defaults,p.kwarg,p.defaults⟩:=by
  cases p; rfl
theorem plain_eq {fd:FuncData} (h:plainFn fd=true):fd=fdOf fd.name fd.qualname fd.params.args (bodyOf fd.body) fd.scope fd.doc fd.pyModule fd.annotations fd.code fd.closureTuple :=
  let ⟨h1,h⟩:=and_tt h
  let ⟨h2,h⟩:=and_tt h
  let ⟨h3,h⟩:=and_tt h
  let ⟨h4,h⟩:=and_tt h
  let ⟨h5,h⟩:=and_tt h
  let ⟨h6,h⟩:=and_tt h
  let ⟨h7,h⟩:=and_tt h
  let ⟨h8,h⟩:=and_tt h
  let ⟨h9,h⟩:=and_tt h
  let ⟨h10,h⟩:=and_tt h
  let ⟨h11,h12⟩:=and_tt h
  (congrArg (fun p=>{ fd with params:=p }) (par_eta fd.params)).trans <| fd_eq (nm:=fd.name) (qn:=fd.qualname) (as:=fd.params.args) (sc:=fd.scope) (dc:=fd.doc) (pm:=fd.pyModule) (an:=fd.annotations) (cd:=fd.code) (ct:=fd.closureTuple) (nil_e h1) (non_e h2) (nil_e h3) (nil_e h4) (non_e h5) (nil_e h6) (st_e h7) (nil_e h8) (noV_e h9) (noV_e h10) (eq_of_beq h11) (eq_of_beq h12)
noncomputable def funcOf:Data→Option FuncData
  | .func fd=>some fd
  | _=>none
theorem funcOf_e {x:Data} {fd:FuncData} (h:funcOf x=some fd):x=.func fd:=by
  cases x<;>first | exact congrArg _ (Option.some.inj h) | exact nS h
noncomputable def fnAt (K:Frag) (a:Addr):Option FuncData:=(K.lookup a).bind fun o=>funcOf o.data
noncomputable def mkFI (K:Frag) (W:Wd) (fuel:Nat) (a:Addr):Option FI:=(fnAt K a).map fun fd=>⟨fd.params.args.length,(fnCx (arN fd.params.args) fd.scope).n,(bodyOf fd.body).map (trS W (fnCx (arN fd.params.args) fd.scope) fuel)⟩
noncomputable def fnB (K:Frag) (a:Addr):Bool:=(fnAt K a).any fun fd=>plainFn fd && (decide (arN fd.params.args).Nodup && (codeIn K fd.code fd.qualname && (scopeOk (arN fd.params.args) fd.scope && isFn K (.ref a))))
theorem fnAt_e {K:Frag} {a:Addr} {fd:FuncData} (h:fnAt K a=some fd):∃ oc od osl,K.lookup a=some ⟨oc,od,.func fd,osl⟩:=by
  unfold fnAt at h
  rcases e:K.lookup a with _ | o
  · rw [e] at h; exact nS h
  · rw [e] at h
    obtain ⟨oc,od,dt,osl⟩:=o
    exact ⟨oc,od,osl,congrArg some (congrArg (Obj.mk oc od · osl) (funcOf_e h))⟩
theorem fn_of {C:Ctx} {fuel:Nat} {fi:FI} {a:Addr} (e:mkFI C.K C.W fuel a=some fi) (h:fnB C.K a=true):FnOk C fi a:=by
  obtain ⟨fd,hf,rfl⟩:=Option.map_eq_some_iff.mp e
  unfold fnB at h
  rw [hf] at h
  obtain ⟨h1,h⟩:=and_tt h
  obtain ⟨h2,h⟩:=and_tt h
  obtain ⟨h3,h⟩:=and_tt h
  obtain ⟨h4,h5⟩:=and_tt h
  obtain ⟨oc,od,osl,hK⟩:=fnAt_e hf
  exact ⟨oc,od,osl,fd.name,fd.qualname,fd.params.args,bodyOf fd.body,fd.scope,fd.doc,fd.pyModule,fd.annotations,fd.code,fd.closureTuple,fuel,hK.trans (congrArg some (congrArg (Obj.mk oc od · osl) (congrArg Data.func (plain_eq h1)))),of_decide_eq_true h2,List.length_map ..,h3,h4,rfl,rfl,h5⟩
noncomputable def fnd (p:Value→Bool):Option (Option Value)→Bool
  | some (some v)=>p v
  | _=>false
noncomputable def isBI (id:String):Value→Bool
  | .builtin i=>i == id
  | _=>false
noncomputable def isTy (id:String):Value→Bool
  | .type i=>i == id
  | _=>false
noncomputable def isRef (a:Addr):Value→Bool
  | .ref b=>b == a
  | _=>false
noncomputable def isNo:Option (Option Value)→Bool
  | some none=>true
  | _=>false
section
variable {p:Value→Bool} {o:Option (Option Value)} {id:String} {a:Addr} {v:Value}
theorem fnd_e (h:fnd p o=true):∃ v,o=some (some v)∧p v=true:=by
  rcases o with _ | _ | v
  · exact nB h
  · exact nB h
  · exact ⟨v,rfl,h⟩
theorem isBI_e (h:isBI id v=true):v=.builtin id:=by
  cases v<;>first | exact congrArg _ (eq_of_beq h) | exact nB h
theorem isTy_e (h:isTy id v=true):v=.type id:=by
  cases v<;>first | exact congrArg _ (eq_of_beq h) | exact nB h
theorem isRef_e (h:isRef a v=true):v=.ref a:=by
  cases v<;>first | exact congrArg _ (eq_of_beq h) | exact nB h
theorem isNo_e (h:isNo o=true):o=some none:=by
  rcases o with _ | _ | v
  · exact nB h
  · rfl
  · exact nB h
theorem fndBI (h:fnd (isBI id) o=true):o=some (some (.builtin id)):=by
  obtain ⟨v,rfl,z⟩:=fnd_e h
  rw [isBI_e z]
theorem fndRef (h:fnd (isRef a) o=true):o=some (some (.ref a)):=by
  obtain ⟨v,rfl,z⟩:=fnd_e h
  rw [isRef_e z]
theorem any_e {α:Type} {p:α→Bool} {o:Option α} (h:o.any p=true):∃ x,o=some x∧p x=true:=by
  rcases o with _ | x
  · exact nB h
  · exact ⟨x,rfl,h⟩
end
noncomputable def clsB (K:Frag) (W:Wd) (fa:List Addr) (ci:CI) (a:Addr):Bool :=
  makesIn K a && (hasDictIn K a && (plainOver K a && (fnd (isBI "object.__getattribute__") (findIn K (.ref a) "__getattribute__") && (isNo (findIn K (.ref a) "__getattr__") &&
  (fnd (isBI "object.__setattr__") (findIn K (.ref a) "__setattr__") && (fa[ci.init]?.any (fun f=>fnd (isRef f) (findIn K (.ref a) "__init__")) && (decide (ci.fields.length≤900) &&
  (ci.fields.all (fun f=>W.nm[f]?.any fun x=>isNo (findIn K (.ref a) x)) &&
  ci.meths.all (fun p=>W.nm[p.1]?.any fun x=>fa[p.2]?.any fun f=>fnd (isRef f) (findIn K (.ref a) x) && decide (p.1∉ci.fields))))))))))
theorem lookup_mem {m f:Nat} {l:List (Nat×Nat)}:l.lookup m=some f→(m,f)∈l:=by
  induction l with
  | nil=>exact fun e=>nS e
  | cons p r ih =>
    obtain ⟨a,b⟩:=p
    rw [List.lookup_cons]
    rcases hb:m == a with _ | _
    · exact fun h=>.tail _ (ih h)
    · exact fun h=>by rw [eq_of_beq hb,← Option.some.inj h]; exact .head _
theorem cls_of {C:Ctx} {ci:CI} {a:Addr} (h:clsB C.K C.W C.fa ci a=true):ClsOk C ci a:=by
  obtain ⟨h1,h⟩:=and_tt h
  obtain ⟨h2,h⟩:=and_tt h
  obtain ⟨h3,h⟩:=and_tt h
  obtain ⟨h4,h⟩:=and_tt h
  obtain ⟨h5,h⟩:=and_tt h
  obtain ⟨h6,h⟩:=and_tt h
  obtain ⟨h7,h⟩:=and_tt h
  obtain ⟨h8,h⟩:=and_tt h
  obtain ⟨h9,h10⟩:=and_tt h
  refine ⟨h1,h2,h3,fndBI h4,isNo_e h5,fndBI h6,?_,of_decide_eq_true h8,fun f hf=>?_,fun m f hm=>?_⟩
  · obtain ⟨f,e,z⟩:=any_e h7
    exact ⟨f,e,fndRef z⟩
  · obtain ⟨x,e,z⟩:=any_e (List.all_eq_true.mp h9 f hf)
    exact ⟨x,e,isNo_e z⟩
  · obtain ⟨x,e,z⟩:=any_e (List.all_eq_true.mp h10 _ (lookup_mem hm))
    obtain ⟨g,e',z⟩:=any_e z
    exact ⟨x,g,e,e',fndRef (and_tt z).1,of_decide_eq_true (and_tt z).2⟩
noncomputable def valB (v:V) (u:Value):Bool:=match v with
  | .none=>noV u
  | .bool b=>(match u with | .bool c=>b == c | _=>false)
  | .int i=>(match u with | .int j _=>i == j | _=>false)
  | .bytes b=>(match u with | .bytes c _=>b.toArray == c | _=>false)
  | _=>false
theorem valB_e {v:V} {u:Value} (h:valB v u=true) (φ:Phi) (hp:Heap):VR φ hp v u:=by
  rcases v with _ | b | i | _ | _ | _ | _<;>first | exact noV_e h▸Eq.refl Value.none | exact absurd h Bool.false_ne_true | skip
  · cases u<;>first | exact congrArg _ (eq_of_beq h).symm | exact nB h
  · cases u<;>first | exact ⟨_,congrArg (Value.int · _) (eq_of_beq h).symm⟩ | exact nB h
  · cases u<;>first | exact ⟨_,congrArg (Value.bytes · _) (eq_of_beq h).symm⟩ | exact nB h
noncomputable def biB (n:Nat) (u:Value):Bool:=match n with
  | 0=>isBI "len" u
  | 1=>isBI "sorted" u
  | 2=>isBI "min" u
  | 3=>isBI "any" u
  | _=>isTy "range" u
theorem biB_e {n:Nat} {u:Value} (h:biB n u=true):u=biV n:=by
  rcases n with _ | _ | _ | _ | n
  · exact isBI_e h
  · exact isBI_e h
  · exact isBI_e h
  · exact isBI_e h
  · exact isTy_e h
noncomputable def gB (K:Frag) (fa ca:List Addr) (p:Str×GV):Bool:=match p.2 with
  | .val v=>fnd (valB v) (nsIn K mainGlobals p.1)
  | .fn i=>fa[i]?.any fun f=>fnd (isRef f) (nsIn K mainGlobals p.1)
  | .cls i=>ca[i]?.any fun f=>fnd (isRef f) (nsIn K mainGlobals p.1)
  | .bi n=>isNo (nsIn K mainGlobals p.1) && (!(p.1 == ("__name__":Str)) && (bootBuiltins p.1).any (biB n))
theorem g_of {C:Ctx} {h:Heap} {mg mb:Str→Option Value} {x:Str} {gv:GV} (X:C.K.In h) (G:h.Ns mainGlobals mg) (hb:∀ x:Str,x≠"__name__"→mb x=bootBuiltins x) (e:gB C.K C.fa C.ca (x,gv)=true):GOk C mg mb x gv:=by
  rcases gv with v | i | i | n
  · obtain ⟨u,hu,z⟩:=fnd_e e
    exact ⟨u,mg_of X G hu,valB_e z⟩
  · obtain ⟨f,hf,z⟩:=any_e e
    exact ⟨f,hf,mg_of X G (fndRef z)⟩
  · obtain ⟨f,hf,z⟩:=any_e e
    exact ⟨f,hf,mg_of X G (fndRef z)⟩
  · obtain ⟨e1,e⟩:=and_tt e
    obtain ⟨e2,e3⟩:=and_tt e
    obtain ⟨u,hu,z⟩:=any_e e3
    exact ⟨mg_none_of X G (isNo_e e1),(hb x fun q=>nB ((no_tt e2).symm.trans (beq_iff_eq.mpr q))).trans (hu.trans (congrArg some (biB_e z)))⟩
theorem stat_of {C:Ctx} {mg mb:Str→Option Value} {fuel:Nat} (X:C.K.In C.h₀) (L:C.h₀.NoLimit) (G:C.h₀.Ns mainGlobals mg) (B:C.h₀.Ns builtinsNs mb) (hb:∀ x:Str,x≠"__name__"→mb x=bootBuiltins x)
    (t1:C.T.fn.map some=C.fa.map (mkFI C.K C.W fuel)) (f1:C.fa.all (fnB C.K)=true) (c0:C.T.cls.length=C.ca.length) (c1:(C.T.cls.zip C.ca).all (fun p=>clsB C.K C.W C.fa p.1 p.2)=true) (g1:C.W.g.all (gB C.K C.fa C.ca)=true) (n1:C.W.nm.Nodup):Stat C:=by
  refine ⟨X,L,⟨mg,mb,G,B,fun x gv e=>g_of X G hb (List.all_eq_true.mp g1 _ (mem_of_lookup e))⟩,fun i a e=>?_,fun i ci a e e'=>?_,fun i a e=>?_,n1⟩
  · have h:=congrArg (fun l=>l[i]?) t1
    have h:(C.T.fn.map some)[i]?=(C.fa.map (mkFI C.K C.W fuel))[i]?:=h
    rw [List.getElem?_map,List.getElem?_map,e] at h
    obtain ⟨fi,hf,z⟩:=Option.map_eq_some_iff.mp h
    exact ⟨fi,hf,fn_of z.symm (List.all_eq_true.mp f1 _ (List.mem_of_getElem? e))⟩
  · exact cls_of (List.all_eq_true.mp c1 (ci,a) (List.mem_of_getElem? (List.getElem?_zip_eq_some.mpr ⟨e,e'⟩)))
  · have:=(List.getElem?_eq_some_iff.mp e).1
    exact ⟨_,List.getElem?_eq_getElem (c0.symm▸this)⟩
end Mine
end
section
open PySem
namespace Mine
noncomputable def nm:List Str:=("all_voters":Str)::("answer_lower":Str)::("answer_vote":Str)::("append":Str)::("applied":Str)::("auto_leave":Str)::("bcast_append":Str)::("become_candidate":Str)::("become_follower":Str)::("become_leader":Str)::("become_pre_candidate":Str)::("begin":Str)::("campaign":Str)::("can_vote":Str)::("check_all":Str)::("check_quorum":Str)::("commit":Str)::("config":Str)::("context":Str)::("copy":Str)::("draw_timeout":Str)::("draws":Str)::("election_elapsed":Str)::("election_tick":Str)::("entries":Str)::("follow":Str)::("forget":Str)::("frm":Str)::("furnish":Str)::("get":Str)::("heartbeat_elapsed":Str)::("heartbeat_tick":Str)::("hup":Str)::("in_lease":Str)::("index":Str)::("jitter":Str)::("joint":Str)::("kind":Str)::("last":Str)::("last_row":Str)::("lead":Str)::("leader":Str)::("learners":Str)::("learners_next":Str)::("log_term":Str)::("max_committed_size":Str)::("max_inflight":Str)::("max_inflight_octets":Str)::("max_size_per_msg":Str)::("max_uncommitted_size":Str)::("members":Str)::("messages":Str)::("nid":Str)::("no_forwarding":Str)::("outgoing":Str)::("past_timeout":Str)::("poll":Str)::("pop":Str)::("pre_vote":Str)::("promotable":Str)::("read_option":Str)::("record_vote":Str)::("reject":Str)::("reject_hint":Str)::("reset":Str)::("reset_votes":Str)::("reverse":Str)::("send":Str)::("settle_higher":Str)::("settle_term":Str)::("snapshot":Str)::("stand":Str)::("state":Str)::("step":Str)::("step_candidate":Str)::("step_down_on_removal":Str)::("step_follower":Str)::("step_leader":Str)::("storage":Str)::("tally":Str)::("term":Str)::("tick":Str)::("tick_election":Str)::("tick_heartbeat":Str)::("timeout":Str)::("to":Str)::("tracker":Str)::("unapplied_conf":Str)::("up_to_date":Str)::("vote":Str)::("voters":Str)::("votes":Str)::("won":Str)::[]
noncomputable def cls0:List CI:=[⟨3,[37,85,27,80,44,34,24,16,70,62,63,18],[(19,4)]⟩,⟨9,[90,54,42,43,5],[(19,10),(36,11),(0,12),(50,13),(89,15)]⟩,⟨16,[17,91],[(61,17),(65,18),(79,19)]⟩,⟨20,[52,23,31,78,35,4,48,45,49,46,47,15,58,60,53,75],[(14,21)]⟩,⟨23,[17,52,23,31,35,15,58,80,89,72,41,51,22,30,84,21,38,86],[(28,24),(11,25),(71,26),(39,27),(88,28),(59,29),(87,30),(83,31),(6,32),(26,33),(40,34),(77,35),(25,36),(76,37),(55,38),(67,39),(20,40),(64,41),(8,42),(7,43),(10,44),(9,45),(81,46),(82,47),(73,48),(69,49),(33,50),(68,51),(1,52),(13,53),(2,54),(32,55),(12,56),(56,57),(92,58),(74,59)]⟩]
end Mine
namespace Mine.L03
end Mine.L03
end
section
open PySem
namespace Mine.L01
noncomputable def gl:List (Str×GV):=("NONE",.val (.int 0))::("NO_LIMIT",.val (.int 18446744073709551615))::("MSG_HUP",.val (.int 0))::("MSG_BEAT",.val (.int 1))::("MSG_PROP",.val (.int 2))::("MSG_APP",.val (.int 3))::("MSG_APP_RESP",.val (.int 4))::("MSG_VOTE",.val (.int 5))::("MSG_VOTE_RESP",.val (.int 6))::("MSG_SNAP",.val (.int 7))::("MSG_HEARTBEAT",.val (.int 8))::("MSG_UNREACHABLE",.val (.int 10))::("MSG_SNAP_STATUS",.val (.int 11))::("MSG_CHECK_QUORUM",.val (.int 12))::("MSG_TRANSFER",.val (.int 13))::("MSG_TIMEOUT_NOW",.val (.int 14))::("MSG_READ_INDEX",.val (.int 15))::("MSG_PRE_VOTE",.val (.int 17))::("MSG_PRE_VOTE_RESP",.val (.int 18))::("MSG_WANT",.val (.int 19))::("MSG_PIECE",.val (.int 20))::("VOTE_PENDING",.val (.int 1))::("VOTE_LOST",.val (.int 2))::("VOTE_WON",.val (.int 3))::("SAFE",.val (.int 0))::("LEASE",.val (.int 1))::("FOLLOWER",.val (.int 0))::("CANDIDATE",.val (.int 1))::("LEADER",.val (.int 2))::("PRE_CANDIDATE",.val (.int 3))::("CAMP_PRE",.val (.int 1))::("CAMP_ELECTION",.val (.int 2))::("CAMP_TRANSFER",.val (.int 3))::("TRANSFER_CONTEXT",.val (.bytes [116,114,97,110,115,102,101,114]))::("is_local",.fn 0)::("vote_resp_kind",.fn 1)::("rising",.fn 2)::("majority_index",.fn 5)::("majority_vote",.fn 6)::("joint_index",.fn 7)::("joint_vote",.fn 8)::("may_lack_term",.fn 22)::("_law_ids",.fn 60)::("_law_turned",.fn 61)::("_law_conf",.fn 62)::("_law_anew",.fn 63)::("_law_wins",.fn 64)::("_law_restart",.fn 65)::("_law_do",.fn 66)::("_law_tell",.fn 67)::("_law_lose",.fn 68)::("_law_act",.fn 69)::("_law_handed",.fn 70)::("law",.fn 71)::("Message",.cls 0)::("Config",.cls 1)::("Ballots",.cls 2)::("RaftConfig",.cls 3)::("Elector",.cls 4)::("len",.bi 0)::("sorted",.bi 1)::("min",.bi 2)::("any",.bi 3)::("range",.bi 4)::[]
noncomputable def wd:Wd:=⟨gl,nm⟩
end Mine.L01
end
section
open PySem
namespace Mine
open X S V
noncomputable def c_is_local:List S:=[.ret (.cmp .In (.loc 0) (.tup [(.const (.int 0)),(.const (.int 1)),(.const (.int 10)),(.const (.int 11)),(.const (.int 12))]))]
noncomputable def c_vote_resp_kind:List S:=[.ite (.cmp .Eq (.loc 0) (.const (.int 5))) [.ret (.const (.int 6))] [],.ite (.cmp .Eq (.loc 0) (.const (.int 17))) [.ret (.const (.int 18))] [],.bad]
noncomputable def c_rising:List S:=[.asg 1 (.list []),.forr 2 false [(.sorted (.loc 0))] [.ite (.bop false [(.not (.loc 1)),(.cmp .NotEq (.sub (.loc 1) (.neg (.const (.int 1)))) (.loc 2))]) [.expr (.append (.loc 1) (.loc 2))] []],.ret (.loc 1)]
noncomputable def c_Message___init__:List S:=[.setattr (.loc 0) 37 (.loc 1),.setattr (.loc 0) 85 (.loc 2),.setattr (.loc 0) 27 (.loc 3),.setattr (.loc 0) 80 (.loc 4),.setattr (.loc 0) 44 (.const (.int 0)),.setattr (.loc 0) 34 (.const (.int 0)),.setattr (.loc 0) 24 (.list []),.setattr (.loc 0) 16 (.const (.int 0)),.setattr (.loc 0) 70 (.const .none),.setattr (.loc 0) 62 (.const (.bool false)),.setattr (.loc 0) 63 (.const (.int 0)),.setattr (.loc 0) 18 (.const (.bytes []))]
noncomputable def c_Message_copy:List S:=[.asg 1 (.new 0 [(.attr (.loc 0) 37),(.attr (.loc 0) 85),(.attr (.loc 0) 27),(.attr (.loc 0) 80)]),.setattr (.loc 1) 44 (.attr (.loc 0) 44),.setattr (.loc 1) 34 (.attr (.loc 0) 34),.bad,.setattr (.loc 1) 16 (.attr (.loc 0) 16),.ite (.cmp .IsNot (.attr (.loc 0) 70) (.const .none)) [.setattr (.loc 1) 70 (.meth (.attr (.loc 0) 70) 19 [])] [],.setattr (.loc 1) 62 (.attr (.loc 0) 62),.setattr (.loc 1) 63 (.attr (.loc 0) 63),.setattr (.loc 1) 18 (.attr (.loc 0) 18),.ret (.loc 1)]
noncomputable def c_majority_index:List S:=[.ite (.not (.loc 0)) [.ret (.const (.int 18446744073709551615))] [],.asg 2 (.sorted (.comp (.meth (.loc 1) 29 [(.loc 3),(.const (.int 0))]) false [(.loc 0)] none)),.ret (.sub (.loc 2) (.bin .Sub (.len (.loc 2)) (.bin .Add (.bin .FloorDiv (.len (.loc 2)) (.const (.int 2))) (.const (.int 1)))))]
noncomputable def c_majority_vote:List S:=[.ite (.not (.loc 0)) [.ret (.const (.int 3))] [],.asg 2 (.const (.int 0)),.asg 3 (.const (.int 0)),.forr 4 false [(.loc 0)] [.ite (.cmp .NotIn (.loc 4) (.loc 1)) [.augName 3 .Add (.const (.int 1))] [.ite (.sub (.loc 1) (.loc 4)) [.augName 2 .Add (.const (.int 1))] []]],.asg 5 (.bin .Add (.bin .FloorDiv (.len (.loc 0)) (.const (.int 2))) (.const (.int 1))),.ite (.cmp .GtE (.loc 2) (.loc 5)) [.ret (.const (.int 3))] [],.ite (.cmp .GtE (.bin .Add (.loc 2) (.loc 3)) (.loc 5)) [.ret (.const (.int 1))] [],.ret (.const (.int 2))]
noncomputable def c_joint_index:List S:=[.asg 3 (.call 5 [(.loc 0),(.loc 2)]),.asg 4 (.call 5 [(.loc 1),(.loc 2)]),.ite (.cmp .Lt (.loc 3) (.loc 4)) [.ret (.loc 3)] [],.ret (.loc 4)]
noncomputable def c_joint_vote:List S:=[.asg 3 (.call 6 [(.loc 0),(.loc 2)]),.asg 4 (.call 6 [(.loc 1),(.loc 2)]),.ite (.cmp .Eq (.loc 3) (.loc 4)) [.ret (.loc 3)] [],.ite (.bop false [(.cmp .Eq (.loc 3) (.const (.int 2))),(.cmp .Eq (.loc 4) (.const (.int 2)))]) [.ret (.const (.int 2))] [],.ret (.const (.int 1))]
noncomputable def c_Config___init__:List S:=[.setattr (.loc 0) 90 (.call 2 [(.loc 1)]),.setattr (.loc 0) 54 (.call 2 [(.loc 2)]),.setattr (.loc 0) 42 (.call 2 [(.loc 3)]),.setattr (.loc 0) 43 (.call 2 [(.loc 4)]),.setattr (.loc 0) 5 (.loc 5)]
noncomputable def c_Config_copy:List S:=[.ret (.new 1 [(.attr (.loc 0) 90),(.attr (.loc 0) 54),(.attr (.loc 0) 42),(.attr (.loc 0) 43),(.attr (.loc 0) 5)])]
noncomputable def c_Config_joint:List S:=[.ret (.cmp .Gt (.len (.attr (.loc 0) 54)) (.const (.int 0)))]
noncomputable def c_Config_all_voters:List S:=[.ret (.call 2 [(.bin .Add (.attr (.loc 0) 90) (.attr (.loc 0) 54))])]
noncomputable def c_Config_members:List S:=[.ret (.call 2 [(.bin .Add (.bin .Add (.attr (.loc 0) 90) (.attr (.loc 0) 54)) (.attr (.loc 0) 42))])]
noncomputable def c_Config_committed:List S:=[.ret (.call 7 [(.attr (.loc 0) 90),(.attr (.loc 0) 54),(.loc 1)])]
noncomputable def c_Config_vote:List S:=[.ret (.call 8 [(.attr (.loc 0) 90),(.attr (.loc 0) 54),(.loc 1)])]
noncomputable def c_Ballots___init__:List S:=[.setattr (.loc 0) 17 (.new 1 [(.list []),(.list []),(.list []),(.list []),(.const (.bool false))]),.setattr (.loc 0) 91 (.dict [] [])]
noncomputable def c_Ballots_record_vote:List S:=[.ite (.cmp .NotIn (.loc 1) (.attr (.loc 0) 91)) [.setitem (.attr (.loc 0) 91) (.loc 1) (.loc 2)] []]
noncomputable def c_Ballots_reset_votes:List S:=[.setattr (.loc 0) 91 (.dict [] [])]
noncomputable def c_Ballots_tally:List S:=[.asg 1 (.const (.int 0)),.asg 2 (.const (.int 0)),.forr 3 false [(.meth (.attr (.loc 0) 17) 0 [])] [.ite (.cmp .NotIn (.loc 3) (.attr (.loc 0) 91)) [.cont] [],.ite (.sub (.attr (.loc 0) 91) (.loc 3)) [.augName 1 .Add (.const (.int 1))] [.augName 2 .Add (.const (.int 1))]],.ret (.tup [(.loc 1),(.loc 2),(.meth (.attr (.loc 0) 17) 89 [(.attr (.loc 0) 91)])])]
noncomputable def c_RaftConfig___init__:List S:=[.setattr (.loc 0) 52 (.loc 1),.setattr (.loc 0) 23 (.loc 2),.setattr (.loc 0) 31 (.loc 3),.setattr (.loc 0) 78 (.loc 4),.setattr (.loc 0) 35 (.tup [(.const (.int 0))]),.setattr (.loc 0) 4 (.const (.int 0)),.setattr (.loc 0) 48 (.bin .LShift (.const (.int 1)) (.const (.int 20))),.setattr (.loc 0) 45 (.bin .LShift (.const (.int 1)) (.const (.int 20))),.setattr (.loc 0) 49 (.const (.int 18446744073709551615)),.setattr (.loc 0) 46 (.const (.int 256)),.setattr (.loc 0) 47 (.const (.int 18446744073709551615)),.setattr (.loc 0) 15 (.const (.bool false)),.setattr (.loc 0) 58 (.const (.bool false)),.setattr (.loc 0) 60 (.const (.int 0)),.setattr (.loc 0) 53 (.const (.bool false)),.setattr (.loc 0) 75 (.const (.bool false))]
noncomputable def c_RaftConfig_check_all:List S:=[.ite (.cmp .Eq (.attr (.loc 0) 52) (.const (.int 0))) [.bad] [],.ite (.cmp .Lt (.attr (.loc 0) 31) (.const (.int 1))) [.bad] [],.ite (.cmp .LtE (.attr (.loc 0) 23) (.attr (.loc 0) 31)) [.bad] [],.ite (.cmp .Is (.attr (.loc 0) 78) (.const .none)) [.bad] [],.ite (.cmp .Eq (.len (.attr (.loc 0) 35)) (.const (.int 0))) [.bad] [],.ite (.cmp .Lt (.attr (.loc 0) 46) (.const (.int 1))) [.bad] [],.ite (.cmp .Eq (.attr (.loc 0) 47) (.const (.int 0))) [.setattr (.loc 0) 47 (.const (.int 18446744073709551615))] [],.ite (.cmp .Eq (.attr (.loc 0) 49) (.const (.int 0))) [.setattr (.loc 0) 49 (.const (.int 18446744073709551615))] [],.ite (.cmp .Eq (.attr (.loc 0) 45) (.const (.int 0))) [.setattr (.loc 0) 45 (.attr (.loc 0) 48)] [],.ite (.cmp .Lt (.attr (.loc 0) 47) (.attr (.loc 0) 48)) [.bad] [],.ite (.bop true [(.cmp .NotEq (.attr (.loc 0) 60) (.const (.int 0))),(.cmp .NotEq (.attr (.loc 0) 60) (.const (.int 1)))]) [.bad] [],.ite (.bop true [(.cmp .Eq (.attr (.loc 0) 60) (.const (.int 1))),(.not (.attr (.loc 0) 15))]) [.bad] []]
noncomputable def c_may_lack_term:List S:=[.ite (.call 0 [(.loc 0)]) [.ret (.const (.bool true))] [],.ret (.cmp .In (.loc 0) (.tup [(.const (.int 2)),(.const (.int 15)),(.const (.int 13))]))]
noncomputable def c_Elector___init__:List S:=[.expr (.meth (.loc 1) 14 []),.setattr (.loc 0) 17 (.loc 1),.setattr (.loc 0) 52 (.attr (.loc 1) 52),.setattr (.loc 0) 23 (.attr (.loc 1) 23),.setattr (.loc 0) 31 (.attr (.loc 1) 31),.setattr (.loc 0) 35 (.attr (.loc 1) 35),.setattr (.loc 0) 15 (.attr (.loc 1) 15),.setattr (.loc 0) 58 (.attr (.loc 1) 58),.setattr (.loc 0) 80 (.const (.int 0)),.setattr (.loc 0) 89 (.const (.int 0)),.setattr (.loc 0) 72 (.const (.int 0)),.setattr (.loc 0) 41 (.const (.int 0)),.setattr (.loc 0) 51 (.list []),.setattr (.loc 0) 22 (.const (.int 0)),.setattr (.loc 0) 30 (.const (.int 0)),.setattr (.loc 0) 84 (.attr (.loc 1) 23),.setattr (.loc 0) 21 (.const (.int 0)),.setattr (.loc 0) 38 (.tup [(.const (.int 0)),(.const (.int 0))]),.expr (.meth (.loc 0) 28 []),.expr (.meth (.loc 0) 11 []),.expr (.meth (.loc 0) 8 [(.attr (.loc 0) 80),(.const (.int 0))])]
noncomputable def c_Elector_furnish:List S:=[.setattr (.loc 0) 86 (.new 2 [])]
noncomputable def c_Elector_begin:List S:=[.pass]
noncomputable def c_Elector_stand:List S:=[.setattr (.loc 0) 80 (.loc 1),.setattr (.loc 0) 89 (.loc 2),.setattr (.attr (.loc 0) 86) 17 (.meth (.loc 3) 19 []),.setattr (.loc 0) 38 (.loc 4)]
noncomputable def c_Elector_last_row:List S:=[.ret (.attr (.loc 0) 38)]
noncomputable def c_Elector_up_to_date:List S:=[.unpack [3,4] (.meth (.loc 0) 39 []),.ret (.bop false [(.cmp .Gt (.loc 2) (.loc 4)),(.bop true [(.cmp .Eq (.loc 2) (.loc 4)),(.cmp .GtE (.loc 1) (.loc 3))])])]
noncomputable def c_Elector_promotable:List S:=[.ret (.cmp .In (.attr (.loc 0) 52) (.meth (.attr (.attr (.loc 0) 86) 17) 0 []))]
noncomputable def c_Elector_unapplied_conf:List S:=[.ret (.const (.bool false))]
noncomputable def c_Elector_tick_heartbeat:List S:=[.pass]
noncomputable def c_Elector_bcast_append:List S:=[.pass]
noncomputable def c_Elector_forget:List S:=[.pass]
noncomputable def c_Elector_lead:List S:=[.pass]
noncomputable def c_Elector_step_leader:List S:=[.pass]
noncomputable def c_Elector_follow:List S:=[.pass]
noncomputable def c_Elector_step_follower:List S:=[.ite (.bop false [(.cmp .Eq (.attr (.loc 1) 37) (.const (.int 3))),(.cmp .Eq (.attr (.loc 1) 37) (.const (.int 8))),(.cmp .Eq (.attr (.loc 1) 37) (.const (.int 7)))]) [.setattr (.loc 0) 22 (.const (.int 0)),.setattr (.loc 0) 41 (.attr (.loc 1) 27)] [.ite (.cmp .Eq (.attr (.loc 1) 37) (.const (.int 14))) [.expr (.meth (.loc 0) 32 [(.const (.int 3))])] []]]
noncomputable def c_Elector_past_timeout:List S:=[.ret (.cmp .GtE (.attr (.loc 0) 22) (.attr (.loc 0) 84))]
noncomputable def c_Elector_send:List S:=[.ite (.cmp .Eq (.attr (.loc 1) 27) (.const (.int 0))) [.setattr (.loc 1) 27 (.attr (.loc 0) 52)] [],.ite (.cmp .In (.attr (.loc 1) 37) (.tup [(.const (.int 5)),(.const (.int 6)),(.const (.int 17)),(.const (.int 18))])) [.ite (.cmp .Eq (.attr (.loc 1) 80) (.const (.int 0))) [.bad] []] [.ite (.cmp .NotEq (.attr (.loc 1) 80) (.const (.int 0))) [.bad] [],.ite (.bop true [(.cmp .NotEq (.attr (.loc 1) 37) (.const (.int 2))),(.cmp .NotEq (.attr (.loc 1) 37) (.const (.int 15)))]) [.setattr (.loc 1) 80 (.attr (.loc 0) 80)] []],.expr (.append (.attr (.loc 0) 51) (.loc 1))]
noncomputable def c_Elector_draw_timeout:List S:=[.asg 1 (.bin .Mod (.sub (.attr (.loc 0) 35) (.bin .Mod (.attr (.loc 0) 21) (.len (.attr (.loc 0) 35)))) (.attr (.loc 0) 23)),.augAttr (.loc 0) 21 .Add (.const (.int 1)),.setattr (.loc 0) 84 (.bin .Add (.attr (.loc 0) 23) (.loc 1))]
noncomputable def c_Elector_reset:List S:=[.ite (.cmp .NotEq (.attr (.loc 0) 80) (.loc 1)) [.setattr (.loc 0) 80 (.loc 1),.setattr (.loc 0) 89 (.const (.int 0))] [],.setattr (.loc 0) 41 (.const (.int 0)),.setattr (.loc 0) 22 (.const (.int 0)),.setattr (.loc 0) 30 (.const (.int 0)),.expr (.meth (.loc 0) 20 []),.expr (.meth (.attr (.loc 0) 86) 65 []),.expr (.meth (.loc 0) 26 [])]
noncomputable def c_Elector_become_follower:List S:=[.expr (.meth (.loc 0) 64 [(.loc 1)]),.setattr (.loc 0) 41 (.loc 2),.setattr (.loc 0) 72 (.const (.int 0))]
noncomputable def c_Elector_become_candidate:List S:=[.ite (.cmp .Eq (.attr (.loc 0) 72) (.const (.int 2))) [.bad] [],.expr (.meth (.loc 0) 64 [(.bin .Add (.attr (.loc 0) 80) (.const (.int 1)))]),.setattr (.loc 0) 89 (.attr (.loc 0) 52),.setattr (.loc 0) 72 (.const (.int 1))]
noncomputable def c_Elector_become_pre_candidate:List S:=[.ite (.cmp .Eq (.attr (.loc 0) 72) (.const (.int 2))) [.bad] [],.expr (.meth (.attr (.loc 0) 86) 65 []),.setattr (.loc 0) 41 (.const (.int 0)),.setattr (.loc 0) 72 (.const (.int 3))]
noncomputable def c_Elector_become_leader:List S:=[.ite (.cmp .Eq (.attr (.loc 0) 72) (.const (.int 0))) [.bad] [],.ite (.cmp .NotIn (.attr (.loc 0) 52) (.meth (.attr (.attr (.loc 0) 86) 17) 50 [])) [.bad] [],.expr (.meth (.loc 0) 64 [(.attr (.loc 0) 80)]),.setattr (.loc 0) 41 (.attr (.loc 0) 52),.setattr (.loc 0) 72 (.const (.int 2)),.expr (.meth (.loc 0) 40 [])]
noncomputable def c_Elector_tick:List S:=[.ite (.cmp .Eq (.attr (.loc 0) 72) (.const (.int 2))) [.expr (.meth (.loc 0) 83 [])] [.expr (.meth (.loc 0) 82 [])]]
noncomputable def c_Elector_tick_election:List S:=[.augAttr (.loc 0) 22 .Add (.const (.int 1)),.ite (.bop true [(.meth (.loc 0) 59 []),(.meth (.loc 0) 55 [])]) [.setattr (.loc 0) 22 (.const (.int 0)),.expr (.meth (.loc 0) 73 [(.new 0 [(.const (.int 0)),(.attr (.loc 0) 52),(.attr (.loc 0) 52),(.const (.int 0))])])] []]
noncomputable def c_Elector_step:List S:=[.ite (.bop false [(.cmp .Eq (.attr (.loc 1) 37) (.const (.int 19))),(.cmp .Eq (.attr (.loc 1) 37) (.const (.int 20)))]) [.bad] [],.ite (.not (.meth (.loc 0) 69 [(.loc 1)])) [.ret (.const .none)] [],.ite (.cmp .Eq (.attr (.loc 1) 37) (.const (.int 0))) [.ite (.attr (.loc 0) 58) [.expr (.meth (.loc 0) 32 [(.const (.int 1))])] [.expr (.meth (.loc 0) 32 [(.const (.int 2))])]] [.ite (.bop false [(.cmp .Eq (.attr (.loc 1) 37) (.const (.int 5))),(.cmp .Eq (.attr (.loc 1) 37) (.const (.int 17)))]) [.expr (.meth (.loc 0) 2 [(.loc 1)])] [.ite (.cmp .Eq (.attr (.loc 0) 72) (.const (.int 2))) [.expr (.meth (.loc 0) 77 [(.loc 1)])] [.ite (.cmp .Eq (.attr (.loc 0) 72) (.const (.int 0))) [.expr (.meth (.loc 0) 76 [(.loc 1)])] [.expr (.meth (.loc 0) 74 [(.loc 1)])]]]]]
noncomputable def c_Elector_settle_term:List S:=[.ite (.cmp .Eq (.attr (.loc 1) 80) (.const (.int 0))) [.ret (.call 22 [(.attr (.loc 1) 37)])] [],.ite (.cmp .Gt (.attr (.loc 1) 80) (.attr (.loc 0) 80)) [.ret (.meth (.loc 0) 68 [(.loc 1)])] [],.ite (.cmp .Lt (.attr (.loc 1) 80) (.attr (.loc 0) 80)) [.expr (.meth (.loc 0) 1 [(.loc 1)]),.ret (.const (.bool false))] [],.ret (.const (.bool true))]
noncomputable def c_Elector_in_lease:List S:=[.ite (.bop false [(.not (.attr (.loc 0) 15)),(.cmp .Eq (.attr (.loc 0) 41) (.const (.int 0)))]) [.ret (.const (.bool false))] [],.ret (.cmp .Lt (.attr (.loc 0) 22) (.attr (.loc 0) 23))]
noncomputable def c_Elector_settle_higher:List S:=[.ite (.bop false [(.cmp .Eq (.attr (.loc 1) 37) (.const (.int 5))),(.cmp .Eq (.attr (.loc 1) 37) (.const (.int 17)))]) [.ite (.bop true [(.cmp .NotEq (.attr (.loc 1) 18) (.const (.bytes [116,114,97,110,115,102,101,114]))),(.meth (.loc 0) 33 [])]) [.ret (.const (.bool false))] []] [],.ite (.cmp .Eq (.attr (.loc 1) 37) (.const (.int 17))) [.ret (.const (.bool true))] [],.ite (.bop true [(.cmp .Eq (.attr (.loc 1) 37) (.const (.int 18))),(.not (.attr (.loc 1) 62))]) [.ret (.const (.bool true))] [],.ite (.bop false [(.cmp .Eq (.attr (.loc 1) 37) (.const (.int 3))),(.cmp .Eq (.attr (.loc 1) 37) (.const (.int 8))),(.cmp .Eq (.attr (.loc 1) 37) (.const (.int 7)))]) [.expr (.meth (.loc 0) 8 [(.attr (.loc 1) 80),(.attr (.loc 1) 27)])] [.expr (.meth (.loc 0) 8 [(.attr (.loc 1) 80),(.const (.int 0))])],.ret (.const (.bool true))]
noncomputable def c_Elector_answer_lower:List S:=[.asg 2 (.bop false [(.cmp .Eq (.attr (.loc 1) 37) (.const (.int 3))),(.cmp .Eq (.attr (.loc 1) 37) (.const (.int 8)))]),.ite (.bop true [(.loc 2),(.bop false [(.attr (.loc 0) 15),(.attr (.loc 0) 58)])]) [.expr (.meth (.loc 0) 67 [(.new 0 [(.const (.int 4)),(.attr (.loc 1) 27),(.attr (.loc 0) 52),(.const (.int 0))])])] [.ite (.cmp .Eq (.attr (.loc 1) 37) (.const (.int 17))) [.asg 3 (.new 0 [(.const (.int 18)),(.attr (.loc 1) 27),(.attr (.loc 0) 52),(.attr (.loc 0) 80)]),.setattr (.loc 3) 62 (.const (.bool true)),.expr (.meth (.loc 0) 67 [(.loc 3)])] []]]
noncomputable def c_Elector_can_vote:List S:=[.ite (.cmp .Eq (.attr (.loc 0) 89) (.attr (.loc 1) 27)) [.ret (.const (.bool true))] [],.ite (.bop true [(.cmp .Eq (.attr (.loc 0) 89) (.const (.int 0))),(.cmp .Eq (.attr (.loc 0) 41) (.const (.int 0)))]) [.ret (.const (.bool true))] [],.ret (.bop true [(.cmp .Eq (.attr (.loc 1) 37) (.const (.int 17))),(.cmp .Gt (.attr (.loc 1) 80) (.attr (.loc 0) 80))])]
noncomputable def c_Elector_answer_vote:List S:=[.asg 2 (.call 1 [(.attr (.loc 1) 37)]),.ite (.bop true [(.meth (.loc 0) 13 [(.loc 1)]),(.meth (.loc 0) 88 [(.attr (.loc 1) 34),(.attr (.loc 1) 44)])]) [.expr (.meth (.loc 0) 67 [(.new 0 [(.loc 2),(.attr (.loc 1) 27),(.attr (.loc 0) 52),(.attr (.loc 1) 80)])]),.ite (.cmp .Eq (.attr (.loc 1) 37) (.const (.int 5))) [.setattr (.loc 0) 22 (.const (.int 0)),.setattr (.loc 0) 89 (.attr (.loc 1) 27)] [],.ret (.const .none)] [],.asg 3 (.new 0 [(.loc 2),(.attr (.loc 1) 27),(.attr (.loc 0) 52),(.attr (.loc 0) 80)]),.setattr (.loc 3) 62 (.const (.bool true)),.expr (.meth (.loc 0) 67 [(.loc 3)])]
noncomputable def c_Elector_hup:List S:=[.ite (.bop false [(.cmp .Eq (.attr (.loc 0) 72) (.const (.int 2))),(.not (.meth (.loc 0) 59 []))]) [.ret (.const .none)] [],.ite (.meth (.loc 0) 87 []) [.ret (.const .none)] [],.expr (.meth (.loc 0) 12 [(.loc 1)])]
noncomputable def c_Elector_campaign:List S:=[.ite (.cmp .Eq (.loc 1) (.const (.int 1))) [.expr (.meth (.loc 0) 10 []),.asg 2 (.const (.int 17)),.asg 3 (.bin .Add (.attr (.loc 0) 80) (.const (.int 1)))] [.expr (.meth (.loc 0) 7 []),.asg 2 (.const (.int 5)),.asg 3 (.attr (.loc 0) 80)],.ite (.cmp .Eq (.meth (.loc 0) 56 [(.attr (.loc 0) 52),(.loc 2),(.const (.bool true))]) (.const (.int 3))) [.expr (.meth (.loc 0) 92 []),.ret (.const .none)] [],.unpack [4,5] (.meth (.loc 0) 39 []),.forr 6 false [(.meth (.attr (.attr (.loc 0) 86) 17) 0 [])] [.ite (.cmp .Eq (.loc 6) (.attr (.loc 0) 52)) [.cont] [],.asg 7 (.new 0 [(.loc 2),(.loc 6),(.attr (.loc 0) 52),(.loc 3)]),.setattr (.loc 7) 34 (.loc 4),.setattr (.loc 7) 44 (.loc 5),.ite (.cmp .Eq (.loc 1) (.const (.int 3))) [.setattr (.loc 7) 18 (.const (.bytes [116,114,97,110,115,102,101,114]))] [],.expr (.meth (.loc 0) 67 [(.loc 7)])]]
noncomputable def c_Elector_poll:List S:=[.ite (.bop true [(.cmp .Eq (.loc 2) (.const (.int 17))),(.cmp .NotEq (.attr (.loc 0) 72) (.const (.int 3)))]) [.bad] [],.ite (.bop true [(.cmp .Eq (.loc 2) (.const (.int 5))),(.cmp .NotEq (.attr (.loc 0) 72) (.const (.int 1)))]) [.bad] [],.expr (.meth (.attr (.loc 0) 86) 61 [(.loc 1),(.loc 3)]),.ret (.sub (.meth (.attr (.loc 0) 86) 79 []) (.const (.int 2)))]
noncomputable def c_Elector_won:List S:=[.ite (.cmp .Eq (.attr (.loc 0) 72) (.const (.int 3))) [.expr (.meth (.loc 0) 12 [(.const (.int 2))]),.ret (.const .none)] [],.expr (.meth (.loc 0) 9 []),.expr (.meth (.loc 0) 6 [])]
noncomputable def c_Elector_step_candidate:List S:=[.ite (.cmp .Eq (.attr (.loc 1) 37) (.const (.int 2))) [.bad] [],.ite (.bop false [(.cmp .Eq (.attr (.loc 1) 37) (.const (.int 3))),(.cmp .Eq (.attr (.loc 1) 37) (.const (.int 8))),(.cmp .Eq (.attr (.loc 1) 37) (.const (.int 7)))]) [.expr (.meth (.loc 0) 8 [(.attr (.loc 1) 80),(.attr (.loc 1) 27)]),.expr (.meth (.loc 0) 25 [(.loc 1)]),.ret (.const .none)] [],.ite (.cmp .Eq (.attr (.loc 0) 72) (.const (.int 3))) [.ite (.cmp .NotEq (.attr (.loc 1) 37) (.const (.int 18))) [.ret (.const .none)] [],.asg 2 (.meth (.loc 0) 56 [(.attr (.loc 1) 27),(.const (.int 17)),(.not (.attr (.loc 1) 62))])] [.ite (.cmp .NotEq (.attr (.loc 1) 37) (.const (.int 6))) [.ret (.const .none)] [],.asg 2 (.meth (.loc 0) 56 [(.attr (.loc 1) 27),(.const (.int 5)),(.not (.attr (.loc 1) 62))])],.ite (.cmp .Eq (.loc 2) (.const (.int 3))) [.expr (.meth (.loc 0) 92 [])] [.ite (.cmp .Eq (.loc 2) (.const (.int 2))) [.expr (.meth (.loc 0) 8 [(.attr (.loc 0) 80),(.const (.int 0))])] []]]
noncomputable def progFns:List FI:=[⟨1,1,c_is_local⟩,⟨1,1,c_vote_resp_kind⟩,⟨1,3,c_rising⟩,⟨5,5,c_Message___init__⟩,⟨1,2,c_Message_copy⟩,⟨2,3,c_majority_index⟩,⟨2,6,c_majority_vote⟩,⟨3,5,c_joint_index⟩,⟨3,5,c_joint_vote⟩,⟨6,6,c_Config___init__⟩,⟨1,1,c_Config_copy⟩,⟨1,1,c_Config_joint⟩,⟨1,1,c_Config_all_voters⟩,⟨1,1,c_Config_members⟩,⟨2,2,c_Config_committed⟩,⟨2,2,c_Config_vote⟩,⟨1,1,c_Ballots___init__⟩,⟨3,3,c_Ballots_record_vote⟩,⟨1,1,c_Ballots_reset_votes⟩,⟨1,4,c_Ballots_tally⟩,⟨5,5,c_RaftConfig___init__⟩,⟨1,1,c_RaftConfig_check_all⟩,⟨1,1,c_may_lack_term⟩,⟨2,2,c_Elector___init__⟩,⟨1,1,c_Elector_furnish⟩,⟨1,1,c_Elector_begin⟩,⟨5,5,c_Elector_stand⟩,⟨1,1,c_Elector_last_row⟩,⟨3,5,c_Elector_up_to_date⟩,⟨1,1,c_Elector_promotable⟩,⟨1,1,c_Elector_unapplied_conf⟩,⟨1,1,c_Elector_tick_heartbeat⟩,⟨1,1,c_Elector_bcast_append⟩,⟨1,1,c_Elector_forget⟩,⟨1,1,c_Elector_lead⟩,⟨2,2,c_Elector_step_leader⟩,⟨2,2,c_Elector_follow⟩,⟨2,2,c_Elector_step_follower⟩,⟨1,1,c_Elector_past_timeout⟩,⟨2,2,c_Elector_send⟩,⟨1,2,c_Elector_draw_timeout⟩,⟨2,2,c_Elector_reset⟩,⟨3,3,c_Elector_become_follower⟩,⟨1,1,c_Elector_become_candidate⟩,⟨1,1,c_Elector_become_pre_candidate⟩,⟨1,1,c_Elector_become_leader⟩,⟨1,1,c_Elector_tick⟩,⟨1,1,c_Elector_tick_election⟩,⟨2,2,c_Elector_step⟩,⟨2,2,c_Elector_settle_term⟩,⟨1,1,c_Elector_in_lease⟩,⟨2,2,c_Elector_settle_higher⟩,⟨2,4,c_Elector_answer_lower⟩,⟨2,2,c_Elector_can_vote⟩,⟨2,4,c_Elector_answer_vote⟩,⟨2,2,c_Elector_hup⟩,⟨2,8,c_Elector_campaign⟩,⟨4,4,c_Elector_poll⟩,⟨1,1,c_Elector_won⟩,⟨2,3,c_Elector_step_candidate⟩]
noncomputable def mk (L:List FI) (k:Nat):Tab:=⟨progFns++L,cls0,k⟩
end Mine
namespace Mine.L03
open X S V
end Mine.L03
end
section
open PySem
namespace Mine.L01
open X S V
noncomputable def c__law_ids:List S:=[.ret (.comp (.loc 2) true [(.const (.int 1)),(.bin .Add (.loc 1) (.const (.int 1)))] (some (.cmp .Eq (.bin .Mod (.bin .FloorDiv (.loc 0) (.bin .Pow (.const (.int 2)) (.bin .Sub (.loc 2) (.const (.int 1))))) (.const (.int 2))) (.const (.int 1)))))]
noncomputable def c__law_turned:List S:=[.ite (.cmp .Eq (.bin .Mod (.bin .FloorDiv (.loc 0) (.bin .Pow (.const (.int 2)) (.loc 1))) (.const (.int 2))) (.const (.int 1))) [.ret (.bin .Sub (.loc 0) (.bin .Pow (.const (.int 2)) (.loc 1)))] [],.ret (.bin .Add (.loc 0) (.bin .Pow (.const (.int 2)) (.loc 1)))]
noncomputable def c__law_conf:List S:=[.asg 2 (.list []),.ite (.cmp .Gt (.len (.loc 0)) (.const (.int 1))) [.asg 2 (.sub (.loc 0) (.const (.int 1)))] [],.asg 3 (.comp (.loc 4) true [(.const (.int 1)),(.bin .Add (.loc 1) (.const (.int 1)))] (some (.bop true [(.cmp .NotIn (.loc 4) (.sub (.loc 0) (.const (.int 0)))),(.cmp .NotIn (.loc 4) (.loc 2))]))),.ret (.new 1 [(.sub (.loc 0) (.const (.int 0))),(.loc 2),(.loc 3),(.list []),(.const (.bool false))])]
noncomputable def c__law_anew:List S:=[.asg 5 (.new 3 [(.loc 0),(.const (.int 2)),(.const (.int 1)),(.const (.int 0))]),.setattr (.loc 5) 58 (.cmp .Eq (.bin .Mod (.loc 1) (.const (.int 2))) (.const (.int 1))),.setattr (.loc 5) 15 (.cmp .Eq (.bin .Mod (.bin .FloorDiv (.loc 1) (.const (.int 2))) (.const (.int 2))) (.const (.int 1))),.setattr (.loc 5) 35 (.tup [(.loc 0),(.const (.int 0))]),.asg 6 (.new 4 [(.loc 5)]),.expr (.meth (.loc 6) 71 [(.sub (.loc 4) (.const (.int 0))),(.sub (.loc 4) (.const (.int 1))),(.call 62 [(.loc 2),(.loc 3)]),(.tup [(.const (.int 1)),(.const (.int 1))])]),.ret (.loc 6)]
noncomputable def c__law_wins:List S:=[.forr 4 false [(.loc 3)] [.asg 5 (.const (.int 0)),.forr 6 false [(.loc 4)] [.ite (.bop true [(.cmp .In (.tup [(.loc 1),(.loc 6)]) (.loc 0)),(.cmp .Eq (.sub (.loc 0) (.tup [(.loc 1),(.loc 6)])) (.loc 2))]) [.augName 5 .Add (.const (.int 1))] []],.ite (.cmp .LtE (.bin .Mult (.const (.int 2)) (.loc 5)) (.len (.loc 4))) [.ret (.const (.bool false))] []],.ret (.const (.bool true))]
noncomputable def c__law_restart:List S:=[.unpack [2,3,4,5,6,7,8,9,10] (.loc 0),.setitem (.loc 2) (.bin .Sub (.loc 1) (.const (.int 1))) (.call 63 [(.loc 1),(.loc 9),(.sub (.loc 8) (.sub (.loc 7) (.bin .Sub (.loc 1) (.const (.int 1))))),(.len (.loc 2)),(.sub (.loc 3) (.bin .Sub (.loc 1) (.const (.int 1))))])]
noncomputable def c__law_do:List S:=[.unpack [4,5,6,7,8,9,10,11,12] (.loc 0),.asg 13 (.sub (.loc 4) (.bin .Sub (.loc 1) (.const (.int 1)))),.asg 14 (.tup [(.attr (.loc 13) 80),(.attr (.loc 13) 89),(.attr (.loc 13) 72)]),.asg 15 (.bop true [(.cmp .Eq (.bin .Mod (.bin .FloorDiv (.loc 11) (.const (.int 2))) (.const (.int 2))) (.const (.int 1))),(.cmp .NotEq (.attr (.loc 13) 41) (.const (.int 0))),(.cmp .Lt (.attr (.loc 13) 22) (.const (.int 2)))]),.ite (.cmp .Is (.loc 2) (.const .none)) [.expr (.meth (.loc 13) 81 [])] [.expr (.meth (.loc 13) 73 [(.loc 2)]),.ite (.bop true [(.cmp .Eq (.attr (.loc 2) 37) (.const (.int 8))),(.cmp .Lt (.attr (.loc 2) 80) (.sub (.loc 14) (.const (.int 0))))]) [.asg 16 (.list []),.ite (.cmp .NotEq (.loc 11) (.const (.int 0))) [.asg 16 (.list [(.tup [(.const (.int 4)),(.attr (.loc 2) 27),(.sub (.loc 14) (.const (.int 0)))])])] [],.ite (.cmp .NotEq (.comp (.tup [(.attr (.loc 21) 37),(.attr (.loc 21) 85),(.attr (.loc 21) 80)]) false [(.attr (.loc 13) 51)] none) (.loc 16)) [.ret (.const (.bool false))] []] [],.ite (.bop true [(.loc 15),(.cmp .Eq (.attr (.loc 2) 37) (.const (.int 5))),(.cmp .Gt (.attr (.loc 2) 80) (.sub (.loc 14) (.const (.int 0)))),(.cmp .Eq (.attr (.loc 2) 18) (.const (.bytes [])))]) [.ite (.bop false [(.cmp .NotEq (.attr (.loc 13) 51) (.list [])),(.cmp .NotEq (.tup [(.attr (.loc 13) 80),(.attr (.loc 13) 89),(.attr (.loc 13) 72)]) (.loc 14))]) [.ret (.const (.bool false))] []] []],.ite (.cmp .Eq (.loc 3) (.const (.int 1))) [.expr (.call 65 [(.loc 0),(.loc 1)]),.ret (.const (.bool true))] [],.unpack [18,19] (.sub (.loc 5) (.bin .Sub (.loc 1) (.const (.int 1)))),.ite (.bop false [(.cmp .Lt (.attr (.loc 13) 80) (.loc 18)),(.bop true [(.cmp .Eq (.attr (.loc 13) 80) (.loc 18)),(.cmp .NotEq (.loc 19) (.const (.int 0))),(.cmp .NotEq (.attr (.loc 13) 89) (.loc 19))])]) [.ret (.const (.bool false))] [],.setitem (.loc 5) (.bin .Sub (.loc 1) (.const (.int 1))) (.tup [(.attr (.loc 13) 80),(.attr (.loc 13) 89)]),.ite (.cmp .NotEq (.attr (.loc 13) 89) (.const (.int 0))) [.setitem (.loc 8) (.tup [(.attr (.loc 13) 80),(.loc 1)]) (.attr (.loc 13) 89)] [],.asg 20 (.attr (.loc 13) 51),.setattr (.loc 13) 51 (.list []),.forr 17 false [(.loc 20)] [.ite (.cmp .NotEq (.attr (.loc 17) 27) (.loc 1)) [.ret (.const (.bool false))] [],.ite (.bop true [(.cmp .Eq (.attr (.loc 17) 37) (.const (.int 6))),(.not (.attr (.loc 17) 62)),(.cmp .NotEq (.tup [(.attr (.loc 17) 80),(.attr (.loc 17) 85)]) (.tup [(.attr (.loc 13) 80),(.attr (.loc 13) 89)]))]) [.ret (.const (.bool false))] [],.ite (.bop true [(.cmp .Eq (.attr (.loc 17) 37) (.const (.int 5))),(.cmp .NotEq (.tup [(.attr (.loc 17) 80),(.loc 1)]) (.tup [(.attr (.loc 13) 80),(.attr (.loc 13) 89)]))]) [.ret (.const (.bool false))] [],.ite (.bop true [(.cmp .Eq (.bin .Mod (.loc 11) (.const (.int 2))) (.const (.int 0))),(.cmp .NotIn (.attr (.loc 17) 37) (.tup [(.const (.int 5)),(.const (.int 6))])),(.bop false [(.cmp .Eq (.loc 11) (.const (.int 0))),(.cmp .NotEq (.attr (.loc 17) 37) (.const (.int 4)))])]) [.ret (.const (.bool false))] []],.ite (.cmp .Eq (.attr (.loc 13) 72) (.const (.int 2))) [.ite (.cmp .NotIn (.attr (.loc 13) 80) (.loc 7)) [.ite (.not (.call 64 [(.loc 8),(.attr (.loc 13) 80),(.loc 1),(.sub (.loc 10) (.sub (.loc 9) (.bin .Sub (.loc 1) (.const (.int 1)))))])) [.ret (.const (.bool false))] [],.setitem (.loc 7) (.attr (.loc 13) 80) (.loc 1)] [],.ite (.cmp .NotEq (.sub (.loc 7) (.attr (.loc 13) 80)) (.loc 1)) [.ret (.const (.bool false))] []] [],.ite (.cmp .Eq (.loc 3) (.const (.int 2))) [.asg 20 (.slice (.loc 20) none (some (.const (.int 1)))),.expr (.call 65 [(.loc 0),(.loc 1)])] [],.forr 17 false [(.loc 20)] [.expr (.append (.loc 6) (.loc 17))],.ret (.const (.bool true))]
noncomputable def c__law_tell:List S:=[.asg 4 (.sub (.loc 0) (.const (.int 2))),.asg 5 (.sub (.loc 0) (.const (.int 8))),.ite (.bop false [(.cmp .GtE (.loc 1) (.len (.loc 4))),(.cmp .LtE (.sub (.loc 5) (.const (.int 0))) (.const (.int 0)))]) [.ret (.const (.bool true))] [],.augItem (.loc 5) (.const (.int 0)) .Sub (.const (.int 1)),.asg 6 (.sub (.loc 4) (.loc 1)),.ite (.not (.loc 2)) [.expr (.pop0 (.loc 4) (.loc 1))] [],.ret (.call 66 [(.loc 0),(.attr (.loc 6) 85),(.loc 6),(.loc 3)])]
noncomputable def c__law_lose:List S:=[.asg 4 (.comp (.loc 5) false [(.loc 0)] (some (.bop false [(.bop true [(.cmp .Eq (.loc 2) (.const (.int 1))),(.cmp .NotEq (.attr (.loc 5) 85) (.loc 1))]),(.bop true [(.cmp .Eq (.loc 2) (.const (.int 2))),(.cmp .NotEq (.attr (.loc 5) 27) (.loc 1))])]))),.while (.loc 0) [.expr (.pop (.loc 0))],.forr 3 false [(.loc 4)] [.expr (.append (.loc 0) (.loc 3))]]
noncomputable def c__law_act:List S:=[.unpack [2,3,4,5,6,7,8,9,10] (.loc 0),.asg 11 (.len (.loc 2)),.asg 12 (.bin .Mod (.loc 1) (.const (.int 13))),.asg 13 (.bin .Add (.bin .Mod (.bin .FloorDiv (.loc 1) (.const (.int 13))) (.loc 11)) (.const (.int 1))),.asg 14 (.bin .Mod (.bin .FloorDiv (.loc 1) (.const (.int 65))) (.const (.int 24))),.asg 15 (.sub (.loc 2) (.bin .Sub (.loc 13) (.const (.int 1)))),.ite (.cmp .Eq (.loc 12) (.const (.int 0))) [.forr 16 true [(.bin .Add (.const (.int 1)) (.bin .Mod (.loc 14) (.const (.int 4))))] [.ite (.not (.call 66 [(.loc 0),(.loc 13),(.const .none),(.const (.int 0))])) [.ret (.const (.bool false))] []],.ret (.const (.bool true))] [],.ite (.cmp .Eq (.loc 12) (.const (.int 1))) [.ret (.call 66 [(.loc 0),(.loc 13),(.new 0 [(.const (.int 0)),(.loc 13),(.loc 13),(.const (.int 0))]),(.const (.int 0))])] [],.ite (.bop true [(.cmp .Eq (.loc 12) (.const (.int 2))),(.cmp .Eq (.attr (.loc 15) 72) (.const (.int 2)))]) [.forr 17 true [(.const (.int 1)),(.bin .Add (.loc 11) (.const (.int 1)))] [.ite (.cmp .NotEq (.loc 17) (.loc 13)) [.expr (.append (.loc 4) (.new 0 [(.const (.int 8)),(.loc 17),(.loc 13),(.attr (.loc 15) 80)]))] []],.ret (.const (.bool true))] [],.ite (.bop true [(.cmp .Eq (.loc 12) (.const (.int 3))),(.cmp .Eq (.attr (.loc 15) 72) (.const (.int 2)))]) [.ite (.cmp .NotEq (.bin .Add (.bin .Mod (.loc 14) (.loc 11)) (.const (.int 1))) (.loc 13)) [.expr (.append (.loc 4) (.new 0 [(.const (.int 14)),(.bin .Add (.bin .Mod (.loc 14) (.loc 11)) (.const (.int 1))),(.loc 13),(.attr (.loc 15) 80)]))] [],.ret (.const (.bool true))] [],.ite (.bop false [(.cmp .Eq (.loc 12) (.const (.int 2))),(.cmp .Eq (.loc 12) (.const (.int 3)))]) [.ret (.call 66 [(.loc 0),(.loc 13),(.const .none),(.const (.int 0))])] [],.ite (.cmp .Eq (.loc 12) (.const (.int 4))) [.expr (.call 65 [(.loc 0),(.loc 13)]),.ret (.const (.bool true))] [],.ite (.cmp .Eq (.loc 12) (.const (.int 5))) [.setitem (.loc 7) (.bin .Sub (.loc 13) (.const (.int 1))) (.bin .Sub (.const (.int 1)) (.sub (.loc 7) (.bin .Sub (.loc 13) (.const (.int 1))))),.expr (.meth (.loc 15) 71 [(.attr (.loc 15) 80),(.attr (.loc 15) 89),(.call 62 [(.sub (.loc 8) (.sub (.loc 7) (.bin .Sub (.loc 13) (.const (.int 1))))),(.loc 11)]),(.tup [(.const (.int 1)),(.const (.int 1))])]),.ret (.const (.bool true))] [],.ite (.cmp .Eq (.loc 12) (.const (.int 6))) [.expr (.call 68 [(.loc 4),(.loc 13),(.bin .Mod (.loc 14) (.const (.int 3)))]),.ret (.const (.bool true))] [],.ite (.cmp .Eq (.loc 12) (.const (.int 7))) [.expr (.reverse (.loc 4)),.ret (.const (.bool true))] [],.ite (.cmp .Eq (.loc 12) (.const (.int 8))) [.forr 16 true [(.min (.const (.int 6)) (.len (.loc 4)))] [.ite (.not (.call 67 [(.loc 0),(.const (.int 0)),(.const (.bool false)),(.const (.int 0))])) [.ret (.const (.bool false))] []],.ret (.const (.bool true))] [],.ite (.cmp .Eq (.loc 12) (.const (.int 9))) [.asg 17 (.const (.int 0)),.forr 16 true [(.len (.loc 4))] [.ite (.cmp .NotEq (.attr (.sub (.loc 4) (.loc 17)) 85) (.loc 13)) [.augName 17 .Add (.const (.int 1))] [.ite (.cmp .LtE (.sub (.loc 10) (.const (.int 0))) (.const (.int 0))) [.ret (.const (.bool true))] [.ite (.not (.call 67 [(.loc 0),(.loc 17),(.const (.bool false)),(.const (.int 0))])) [.ret (.const (.bool false))] []]]],.ret (.const (.bool true))] [],.asg 17 (.bin .Mod (.loc 14) (.bin .Add (.len (.loc 4)) (.const (.int 1)))),.ite (.cmp .Eq (.loc 12) (.const (.int 10))) [.ret (.call 67 [(.loc 0),(.loc 17),(.const (.bool false)),(.bin .Add (.const (.int 1)) (.bin .Mod (.loc 14) (.const (.int 2))))])] [],.ret (.call 67 [(.loc 0),(.loc 17),(.cmp .Eq (.loc 12) (.const (.int 11))),(.const (.int 0))])]
noncomputable def c__law_handed:List S:=[.unpack [2,3,4,5,6,7,8,9,10] (.loc 0),.asg 11 (.list []),.forr 12 true [(.const (.int 1)),(.bin .Add (.len (.loc 2)) (.const (.int 1)))] [.ite (.cmp .NotEq (.loc 12) (.loc 1)) [.expr (.append (.loc 4) (.new 0 [(.const (.int 8)),(.loc 12),(.loc 1),(.const (.int 2))])),.ite (.any (.comp (.cmp .In (.loc 12) (.loc 14)) false [(.sub (.loc 8) (.sub (.loc 7) (.bin .Sub (.loc 12) (.const (.int 1)))))] none)) [.expr (.append (.loc 11) (.loc 12))] []] []],.forr 13 true [(.const (.int 4))] [.ite (.bop true [(.loc 4),(.not (.call 67 [(.loc 0),(.const (.int 0)),(.const (.bool false)),(.const (.int 0))]))]) [.ret (.const (.bool false))] []],.ite (.cmp .Eq (.loc 11) (.list [])) [.ret (.cmp .Eq (.loc 4) (.list []))] [],.expr (.append (.loc 4) (.new 0 [(.const (.int 14)),(.sub (.loc 11) (.const (.int 0))),(.loc 1),(.const (.int 2))])),.forr 13 true [(.const (.int 12))] [.ite (.bop true [(.loc 4),(.not (.call 67 [(.loc 0),(.bin .Sub (.len (.loc 4)) (.const (.int 1))),(.const (.bool false)),(.const (.int 0))]))]) [.ret (.const (.bool false))] []],.ret (.bop true [(.cmp .Eq (.loc 4) (.list [])),(.cmp .Eq (.loc 5) (.dict [(.const (.int 2)),(.const (.int 3))] [(.loc 1),(.sub (.loc 11) (.const (.int 0)))]))])]
noncomputable def c_law:List S:=[.asg 1 (.const (.int 0)),.asg 2 (.const (.int 0)),.asg 3 (.const (.int 0)),.ite (.cmp .Gt (.len (.loc 0)) (.const (.int 0))) [.asg 1 (.sub (.loc 0) (.const (.int 0)))] [],.ite (.cmp .Gt (.len (.loc 0)) (.const (.int 1))) [.asg 2 (.sub (.loc 0) (.const (.int 1)))] [],.ite (.cmp .Gt (.len (.loc 0)) (.const (.int 2))) [.asg 3 (.sub (.loc 0) (.const (.int 2)))] [],.asg 4 (.bin .Mod (.loc 1) (.const (.int 4))),.asg 5 (.bin .Mod (.bin .FloorDiv (.loc 1) (.const (.int 4))) (.const (.int 4))),.asg 6 (.bin .Add (.const (.int 3)) (.bin .Mod (.bin .FloorDiv (.loc 1) (.const (.int 16))) (.const (.int 3)))),.asg 7 (.bin .Sub (.bin .Pow (.const (.int 2)) (.loc 6)) (.const (.int 1))),.asg 8 (.bin .Sub (.loc 7) (.bin .Mod (.loc 2) (.loc 7))),.asg 9 (.call 60 [(.loc 8),(.loc 6)]),.asg 10 (.call 60 [(.bin .Sub (.loc 7) (.bin .Mod (.bin .Mod (.loc 3) (.const (.int 32))) (.loc 7))),(.loc 6)]),.ite (.cmp .Eq (.loc 5) (.const (.int 0))) [.asg 11 (.list [(.list [(.loc 9)]),(.list [(.loc 9)])])] [.ite (.cmp .Eq (.loc 5) (.const (.int 1))) [.asg 11 (.list [(.list [(.loc 9),(.loc 10)]),(.list [(.loc 10)])])] [.ite (.cmp .Eq (.loc 5) (.const (.int 2))) [.asg 11 (.list [(.list [(.loc 9),(.loc 10)]),(.list [(.loc 9)])])] [.asg 12 (.call 61 [(.loc 8),(.bin .Mod (.loc 3) (.loc 6))]),.ite (.cmp .Eq (.loc 12) (.const (.int 0))) [.asg 12 (.loc 8)] [],.asg 11 (.list [(.list [(.loc 9)]),(.list [(.call 60 [(.loc 12),(.loc 6)])])])]]],.asg 14 (.comp (.bin .Mod (.bin .FloorDiv (.bin .FloorDiv (.loc 3) (.const (.int 32))) (.bin .Pow (.const (.int 2)) (.loc 25))) (.const (.int 2))) true [(.loc 6)] none),.asg 15 (.list []),.asg 16 (.list []),.forr 13 true [(.loc 6)] [.expr (.append (.loc 16) (.tup [(.const (.int 1)),(.const (.int 0))])),.expr (.append (.loc 15) (.call 63 [(.bin .Add (.loc 13) (.const (.int 1))),(.loc 4),(.sub (.loc 11) (.sub (.loc 14) (.loc 13))),(.loc 6),(.tup [(.const (.int 1)),(.const (.int 0))])]))],.asg 17 (.const (.int 1)),.while (.bop true [(.cmp .Lt (.loc 17) (.loc 6)),(.not (.any (.comp (.cmp .In (.loc 17) (.loc 25)) false [(.sub (.loc 11) (.sub (.loc 14) (.bin .Sub (.loc 17) (.const (.int 1)))))] none)))]) [.augName 17 .Add (.const (.int 1))],.asg 18 (.list []),.asg 19 (.dict [] []),.asg 20 (.list [(.const (.int 40))]),.asg 21 (.tup [(.loc 15),(.loc 16),(.loc 18),(.loc 19),(.dict [] []),(.loc 14),(.loc 11),(.loc 4),(.loc 20)]),.asg 22 (.sub (.loc 15) (.bin .Sub (.loc 6) (.const (.int 1)))),.expr (.meth (.loc 22) 73 [(.new 0 [(.const (.int 8)),(.loc 6),(.const (.int 1)),(.const (.int 0))])]),.ite (.bop false [(.cmp .NotEq (.attr (.loc 22) 41) (.const (.int 0))),(.cmp .NotEq (.attr (.loc 22) 51) (.list []))]) [.ret (.const (.bool false))] [],.ite (.not (.call 66 [(.loc 21),(.loc 17),(.new 0 [(.const (.int 0)),(.loc 17),(.loc 17),(.const (.int 0))]),(.const (.int 0))])) [.ret (.const (.bool false))] [],.forr 23 true [(.const (.int 20))] [.ite (.bop true [(.loc 18),(.not (.call 67 [(.loc 21),(.bin .Sub (.len (.loc 18)) (.const (.int 1))),(.const (.bool false)),(.const (.int 0))]))]) [.ret (.const (.bool false))] []],.ite (.bop false [(.loc 18),(.cmp .NotEq (.loc 19) (.dict [(.const (.int 2))] [(.loc 17)])),(.cmp .NotEq (.attr (.sub (.loc 15) (.bin .Sub (.loc 17) (.const (.int 1)))) 72) (.const (.int 2)))]) [.ret (.const (.bool false))] [],.ite (.bop true [(.cmp .Eq (.bin .Mod (.bin .FloorDiv (.loc 1) (.const (.int 48))) (.const (.int 2))) (.const (.int 1))),(.not (.call 70 [(.loc 21),(.loc 17)]))]) [.ret (.const (.bool false))] [],.setitem (.loc 20) (.const (.int 0)) (.const (.int 30)),.forr 24 false [(.slice (.loc 0) (some (.const (.int 3))) (some (.const (.int 15))))] [.ite (.not (.call 69 [(.loc 21),(.bin .Mod (.loc 24) (.const (.int 1560)))])) [.ret (.const (.bool false))] [],.while (.cmp .Gt (.len (.loc 18)) (.const (.int 24))) [.expr (.pop0 (.loc 18) (.const (.int 0)))]],.ret (.const (.bool true))]
noncomputable def lawFns:List FI:=[⟨2,2,c__law_ids⟩,⟨2,2,c__law_turned⟩,⟨2,4,c__law_conf⟩,⟨5,7,c__law_anew⟩,⟨4,7,c__law_wins⟩,⟨2,11,c__law_restart⟩,⟨4,21,c__law_do⟩,⟨4,7,c__law_tell⟩,⟨3,5,c__law_lose⟩,⟨2,18,c__law_act⟩,⟨2,14,c__law_handed⟩,⟨1,25,c_law⟩]
end Mine.L01
end
section
open PySem
namespace Mine
structure TL where
  fns:List FI
  lev:Nat
noncomputable def mkL (F:List FI) (d:Nat):TL:=⟨F,d⟩
noncomputable def TL.cls (_:TL):List CI:=cls0
noncomputable def TL.F (T:TL) (k:Nat):Nat→List V→Rn V:=evF (Mine.mk T.fns k) T.lev
noncomputable def TL.E (T:TL) (k m:Nat):Evs:=ev (Mine.mk T.fns k) (T.F k) m
inductive Ev {α:Type} (f:Nat→Nat→Rn α) (H:Hp) (Q:α→Hp→Prop):Prop
  | mk (n:Nat) (a:α) (H':Hp):(∀ k m,n≤k→n≤m→f k m H=some (a,H'))→Q a H'→Ev f H Q
inductive OkE {α:Type} (o:Option α) (K:α→Prop):Prop
  | mk (a:α):o=some a→K a→OkE o K
inductive OkR (o:Option (V×Hp)) (K:V→Hp→Prop):Prop
  | mk (w:V) (H:Hp):o=some (w,H)→K w H→OkR o K
inductive SeeK (o:Option Bool) (t:Bool) (A B:Prop):Prop
  | mk (b:Bool):o=some b→(b=t→A)→(b=(!t)→B)→SeeK o t A B
section
variable {α β:Type} {f f':Nat→Nat→Rn α} {g:Nat→Nat→α→Rn β} {H H':Hp} {Q R:α→Hp→Prop} {S:β→Hp→Prop} {a:α}
theorem Ev.mono (h:Ev f H Q) (k:∀ a H',Q a H'→R a H'):Ev f H R:=by
  obtain ⟨n,a,H',e,q⟩:=h
  exact ⟨n,a,H',e,k _ _ q⟩
theorem Ev.all (e:∀ k m,f k m H=some (a,H')) (q:Q a H'):Ev f H Q:=⟨0,a,H',fun k m _ _=>e k m,q⟩
theorem Ev.bnd (h:Ev f H fun a H₁=>Ev (fun k m=>g k m a) H₁ S):Ev (fun k m=>bnd (f k m) (g k m)) H S:=by
  obtain ⟨n,a,H₁,e,n',b,H₂,e',q⟩:=h
  refine ⟨max n n',b,H₂,fun k m hk hm=>?_,q⟩
  unfold Mine.bnd
  rw [e k m (Nat.le_trans (Nat.le_max_left n n') hk) (Nat.le_trans (Nat.le_max_left n n') hm)]
  exact e' k m (Nat.le_trans (Nat.le_max_right n n') hk) (Nat.le_trans (Nat.le_max_right n n') hm)
theorem Ev.pur {a:α} (q:Q a H):Ev (fun _ _=>pur a) H Q:=Ev.all (fun _ _=>rfl) q
theorem Ev.lft {o:Option α} (e:o=some a) (q:Q a H):Ev (fun _ _=>lft o) H Q:=Ev.all (fun _ _=>by rw [e]; rfl) q
theorem Ev.eq (h:Ev f' H Q) (e:∀ k m,f k m H=f' k m H):Ev f H Q:=by
  obtain ⟨n,a,H',e',q⟩:=h
  exact ⟨n,a,H',fun k m hk hm=>(e k m).trans (e' k m hk hm),q⟩
theorem Ev.at {H₀:Hp} (h:Ev f' H₀ Q) (e:∀ k m,f k m H=f' k m H₀):Ev f H Q:=by
  obtain ⟨n,a,H',e',q⟩:=h
  exact ⟨n,a,H',fun k m hk hm=>(e k m).trans (e' k m hk hm),q⟩
theorem Ev.next (h:Ev f' H Q) (e:∀ k m,f k (m + 1) H=f' k m H):Ev f H Q:=by
  obtain ⟨n,a,H',e',q⟩:=h
  refine ⟨n + 1,a,H',fun k m hk hm=>?_,q⟩
  rcases m with _ | m
  · exact absurd hm (Nat.not_succ_le_zero n)
  · exact (e k m).trans (e' k m (Nat.le_of_succ_le hk) (Nat.le_of_succ_le_succ hm))
theorem Ev.grd {b:Bool} (e:b=true) (h:Ev f H Q):Ev (fun k m=>grd b (f k m)) H Q:=by subst e; exact h
end
section
variable {T:TL}
noncomputable def WX (T:TL) (x:X) (ρ:En) (H:Hp) (Q:V→Hp→Prop):Prop:=Ev (fun k m=>(T.E k m).x x ρ) H Q
noncomputable def WXs (T:TL) (xs:List X) (ρ:En) (H:Hp) (Q:List V→Hp→Prop):Prop:=Ev (fun k m=>evs (T.E k m).x ρ xs) H Q
noncomputable def WF (T:TL) (f:Nat) (vs:List V) (H:Hp) (Q:V→Hp→Prop):Prop:=Ev (fun k _=>T.F k f vs) H Q
noncomputable def Stp (K:En→Hp→Prop) (Q:Fl→En→Hp→Prop) (p:Fl×En) (H:Hp):Prop:=match p.1 with
  | .next=>K p.2 H
  | fl=>Q fl p.2 H
noncomputable def WS (T:TL):List S→En→Hp→(Fl→En→Hp→Prop)→Prop
  | [],ρ,H,Q=>Q .next ρ H
  | s::ss,ρ,H,Q=>Ev (fun k m=>(T.E k m).s s ρ) H (Stp (fun ρ' H'=>WS T ss ρ' H' Q) Q)
theorem Stp.mono {K K':En→Hp→Prop} {Q Q':Fl→En→Hp→Prop} {p:Fl×En} {H:Hp} (h:Stp K Q p H) (k:∀ ρ H,K ρ H→K' ρ H) (q:∀ fl ρ H,Q fl ρ H→Q' fl ρ H):Stp K' Q' p H:=by
  obtain ⟨fl,ρ⟩:=p
  rcases fl with _ | _ | v
  · exact k _ _ h
  · exact q _ _ _ h
  · exact q _ _ _ h
inductive Is {α:Type} (v:α) (H:Hp):α→Hp→Prop
  | mk:Is v H v H
noncomputable def PX (ρ:En) (H:Hp) (x:X) (v:V):Prop:=∀ T,WX T x ρ H (Is v H)
noncomputable def PXs (as:List X) (ρ:En) (H:Hp) (us:List V):Prop:=∀ T,WXs T as ρ H (Is us H)
section
variable {ρ:En} {H:Hp} {Q R:V→Hp→Prop} {x a b e:X} {xs as:List X} {u v w:V} {us vs:List V} {r c f:Nat} {fs:List (Nat×V)} {ci:CI} {i j:Int} {m:Nat}
theorem WX.mono (h:WX T x ρ H Q) (k:∀ v H',Q v H'→R v H'):WX T x ρ H R:=Ev.mono h k
theorem WS.mono {ss:List S} {Q R:Fl→En→Hp→Prop} (h:WS T ss ρ H Q) (k:∀ fl v H',Q fl v H'→R fl v H'):WS T ss ρ H R:=by
  induction ss generalizing ρ H with
  | nil=>exact k _ _ _ h
  | cons s ss ih=>exact Ev.mono h fun p H' z=>z.mono (fun _ _=>ih) k
theorem WS.app {t ss:List S} {Q:Fl→En→Hp→Prop} (h:WS T (t++ss) ρ H Q):WS T t ρ H fun fl ρ' H'=>Stp (fun ρ' H'=>WS T ss ρ' H' Q) Q (fl,ρ') H':=by
  induction t generalizing ρ H with
  | nil=>exact h
  | cons s t ih =>
    refine Ev.mono h fun p H' z=>?_
    obtain ⟨fl,ρ'⟩:=p
    rcases fl with _ | _ | v
    · exact ih z
    · exact z
    · exact z
theorem WS.run {t:List S} {Q:Fl→En→Hp→Prop} (h:WS T t ρ H Q):Ev (fun k m=>exs (T.E k m).s t ρ) H fun p=>Q p.1 p.2:=by
  induction t generalizing ρ H with
  | nil=>exact Ev.pur (a:=(Fl.next,ρ)) h
  | cons s t ih =>
    refine Ev.bnd (f:=fun k m=>(T.E k m).s s ρ) (Ev.mono h fun p H' z=>?_)
    obtain ⟨fl,ρ'⟩:=p
    rcases fl with _ | _ | v
    · exact ih z
    · exact Ev.pur (a:=(Fl.cont,ρ')) z
    · exact Ev.pur (a:=(Fl.ret v,ρ')) z
theorem Is.to {α:Type} {v:α} {H:Hp} {Q:α→Hp→Prop} (q:Q v H):∀ u H',Is v H u H'→Q u H':=fun _ _ h=>h.rec q
theorem WXs.nil {Q:List V→Hp→Prop} (q:Q [] H):WXs T [] ρ H Q:=Ev.pur q
theorem WXs.cons {Q:List V→Hp→Prop} (h:WX T x ρ H fun v H₁=>WXs T xs ρ H₁ fun vs H₂=>Q (v::vs) H₂):WXs T (x::xs) ρ H Q:=Ev.bnd (Ev.mono h fun _ _ h=>Ev.bnd (Ev.mono h fun _ _ q=>Ev.pur q))
theorem WX.step (h:Ev (fun k m=>stepX (mk T.fns k) (T.F k) (T.E k m).x x ρ) H Q):WX T x ρ H Q:=Ev.next h fun _ _=>rfl
theorem inst_at {H:Hp} (o:H[r]?=some (.inst c fs)):instAt r H=some (c,fs):=by unfold instAt; rw [o]
theorem list_at {H:Hp} (o:H[r]?=some (.list vs)):listAt r H=some vs:=by unfold listAt; rw [o]
theorem ins_at {H:Hp} (o:H[r]?=some (.inst c fs)):insR (.ref r) H=some ((c,fs),H):=congrArg (lft · H) (inst_at o)
theorem lst_at {H:Hp} (o:H[r]?=some (.list vs)):lstR (.ref r) H=some (vs,H):=congrArg (lft · H) (list_at o)
theorem Ev.ins {β:Type} {g:Nat→Nat→(Nat×List (Nat×V))→Rn β} {S:β→Hp→Prop} {H:Hp} (o:H[r]?=some (.inst c fs)) (h:Ev (fun k m=>g k m (c,fs)) H S):Ev (fun k m=>Mine.bnd (insR (.ref r)) (g k m)) H S:=Ev.bnd (Ev.all (fun _ _=>ins_at o) h)
theorem Ev.lst {β:Type} {g:Nat→Nat→List V→Rn β} {S:β→Hp→Prop} {H:Hp} (o:H[r]?=some (.list vs)) (h:Ev (fun k m=>g k m vs) H S):Ev (fun k m=>Mine.bnd (lstR (.ref r)) (g k m)) H S:=Ev.bnd (Ev.all (fun _ _=>lst_at o) h)
theorem Ev.lftB {α β:Type} {o:Option α} {z:α} {g:Nat→Nat→α→Rn β} {S:β→Hp→Prop} {H:Hp} (e:o=some z) (h:Ev (fun k m=>g k m z) H S):Ev (fun k m=>Mine.bnd (Mine.lft o) (g k m)) H S:=Ev.bnd (Ev.lft e h)
theorem WX.call (h:WXs T as ρ H fun vs H₁=>WF T f vs H₁ Q):WX T (.call f as) ρ H Q:=WX.step (Ev.bnd h)
theorem meth_at {H:Hp} (o:H[r]?=some (.inst c fs)) (hc:T.cls[c]?=some ci) (hm:ci.meths.lookup m=some f):Ev (fun k _=>methR (mk T.fns k) m (.ref r)) H (Is f H) :=
  Ev.ins o (Ev.lftB hc (Ev.lft hm .mk))
inductive MethK (T:TL) (m:Nat) (as:List X) (ρ:En) (Q:V→Hp→Prop) (u:V) (H:Hp):Prop
  | mk (r c:Nat) (fs:List (Nat×V)) (ci:CI) (f:Nat):u=.ref r→H[r]?=some (.inst c fs)→T.cls[c]?=some ci→ci.meths.lookup m=some f→(WXs T as ρ H fun vs H₂=>WF T f (.ref r::vs) H₂ Q)→MethK T m as ρ Q u H
theorem WX.methX (h:WX T x ρ H (MethK T m as ρ Q)):WX T (.meth x m as) ρ H Q:=by
  refine WX.step (Ev.bnd (g:=fun k n u=>bnd (methR (mk T.fns k) m u) fun i=>bnd (evs (T.E k n).x ρ as) fun vs=>T.F k i (u::vs)) (Ev.mono h ?_))
  rintro _ H₁ ⟨r,c,fs,ci,f,rfl,o,hc,hm,w⟩
  exact Ev.bnd (Ev.mono (meth_at o hc hm) (Is.to (Ev.bnd w)))
inductive NewK (K:Hp→Prop) (v:V) (H:Hp):Prop
  | mk:v=.none→K H→NewK K v H
theorem WX.new (hc:T.cls[c]?=some ci) (h:WXs T as ρ H fun vs H₁=>WF T ci.init (.ref H₁.length::vs) (H₁++[.inst c []]) (NewK (Q (.ref H₁.length)))):WX T (.new c as) ρ H Q:=by
  refine WX.step (Ev.bnd (Ev.mono h fun vs H₁ h=>Ev.lftB hc ?_))
  refine Ev.at (Ev.bnd (H:=H₁++[O.inst c []]) (f:=fun k m=>T.F k ci.init (V.ref H₁.length::vs)) (g:=fun k m u=>match u with | .none=>pur (V.ref H₁.length) | _=>non) (Ev.mono h ?_)) fun _ _=>rfl
  rintro u H₂ ⟨rfl,q⟩
  exact Ev.pur q
inductive AppK (r:Nat) (K:V→Hp→Prop) (v:V) (H:Hp):Prop
  | mk (vs:List V):H[r]?=some (.list vs)→vs.length < lim→K .none (H.set r (.list (vs++[v])))→AppK r K v H
inductive SortK (K:V→Hp→Prop) (v:V) (H:Hp):Prop
  | mk (vs:List V) (is:List Int):listOf H v=some vs→toInts vs=some is→is.length < 64→K (.ref H.length) (H++[.list ((isort is).map .int)])→SortK K v H
theorem WX.sorted (h:WX T x ρ H (SortK Q)):WX T (.sorted x) ρ H Q:=by
  refine WX.step (Ev.bnd (g:=fun _ _=>sortR) (Ev.mono h ?_))
  rintro v H₁ ⟨vs,is,h1,h2,h3,q⟩
  exact Ev.eq (Ev.lftB (g:=fun _ _ vs=>bnd (lft (toInts vs)) fun is=>grd (Nat.blt is.length 64) (mkList ((isort is).map .int))) h1 (Ev.lftB (g:=fun _ _ is=>grd (Nat.blt is.length 64) (mkList ((isort is).map .int))) h2 (Ev.grd (b:=Nat.blt is.length 64) (f:=fun _ _=>mkList ((isort is).map .int)) (Nat.ble_eq.mpr h3) (Ev.all (fun _ _=>rfl) q)))) fun _ _=>rfl
inductive AnyK (K:V→Hp→Prop) (v:V) (H:Hp):Prop
  | mk (vs:List V) (bs:List Bool):listOf H v=some vs→toBools vs=some bs→K (.bool (bs.any id)) H→AnyK K v H
theorem WX.any (h:WX T x ρ H (AnyK Q)):WX T (.any x) ρ H Q:=by
  refine WX.step (Ev.bnd (g:=fun _ _=>anyR) (Ev.mono h ?_))
  rintro v H₁ ⟨vs,bs,h1,h2,q⟩
  exact Ev.eq (Ev.lftB (g:=fun _ _ vs=>bnd (lft (toBools vs)) fun bs=>pur (V.bool (bs.any id))) h1 (Ev.lftB (g:=fun _ _ bs=>pur (V.bool (List.any bs id))) h2 (Ev.pur q))) fun _ _=>rfl
theorem WX.len (h:WX T x ρ H fun v H₁=>OkE (lenV H₁ v) fun i=>Q (.int i) H₁):WX T (.len x) ρ H Q:=by
  refine WX.step (Ev.bnd (g:=fun _ _ v H=>bnd (lft (lenV H v)) (fun n=>pur (V.int n)) H) (Ev.mono h ?_))
  rintro v H₁ ⟨i,h1,q⟩
  exact Ev.eq (Ev.lftB (g:=fun _ _ n=>pur (V.int n)) h1 (Ev.pur q)) fun _ _=>rfl
theorem WX.bin {op:Operator} (h:WX T a ρ H fun u H₁=>WX T b ρ H₁ fun v H₂=>OkR (binV op u v H₂) Q):WX T (.bin op a b) ρ H Q:=by
  refine WX.step (Ev.bnd (g:=fun k m u=>bnd ((T.E k m).x b ρ) fun v=>binV op u v) (Ev.mono h fun u H₁ h=>Ev.bnd (g:=fun _ _ v=>binV op u v) (Ev.mono h ?_)))
  rintro v H₂ ⟨w,H₃,e,q⟩
  exact Ev.all (fun _ _=>e) q
theorem WX.cmp {op:CmpOp} (h:WX T a ρ H fun u H₁=>WX T b ρ H₁ fun v H₂=>OkE (cmpV op u v H₂) fun w=>Q w H₂):WX T (.cmp op a b) ρ H Q:=by
  refine WX.step (Ev.bnd (g:=fun k m u=>bnd ((T.E k m).x b ρ) fun v H=>lft (cmpV op u v H) H) (Ev.mono h fun u H₁ h=>Ev.bnd (g:=fun _ _ v H=>lft (cmpV op u v H) H) (Ev.mono h ?_)))
  rintro v H₂ ⟨w,e,q⟩
  exact Ev.eq (Ev.lft e q) fun _ _=>rfl
theorem WX.sub (h:WX T a ρ H fun u H₁=>WX T b ρ H₁ fun v H₂=>OkE (subV u v H₂) fun w=>Q w H₂):WX T (.sub a b) ρ H Q:=by
  refine WX.step (Ev.bnd (g:=fun k m u=>bnd ((T.E k m).x b ρ) fun v H=>lft (subV u v H) H) (Ev.mono h fun u H₁ h=>Ev.bnd (g:=fun _ _ v H=>lft (subV u v H) H) (Ev.mono h ?_)))
  rintro v H₂ ⟨w,e,q⟩
  exact Ev.eq (Ev.lft e q) fun _ _=>rfl
theorem Ev.tru {β:Type} {g:Nat→Nat→Bool→Rn β} {S:β→Hp→Prop} {H:Hp} {t:Bool} (e:truthV H v=some t) (h:Ev (fun k m=>g k m t) H S):Ev (fun k m=>Mine.bnd (truR v) (g k m)) H S:=Ev.bnd (Ev.eq (Ev.lft e h) fun _ _=>rfl)
theorem WX.not (h:WX T a ρ H fun u H₁=>OkE (truthV H₁ u) fun b=>Q (.bool (!b)) H₁):WX T (.not a) ρ H Q:=by
  refine WX.step (Ev.bnd (g:=fun _ _ v=>bnd (truR v) fun b=>pur (V.bool !b)) (Ev.mono h ?_))
  rintro v H₁ ⟨t,e,q⟩
  exact Ev.tru e (Ev.pur q)
theorem WX.tup (h:WXs T as ρ H fun vs H₁=>Q (.tup vs) H₁):WX T (.tup as) ρ H Q:=WX.step (Ev.bnd (Ev.mono h fun _ _ q=>Ev.pur q))
theorem WX.list (h:WXs T as ρ H fun vs H₁=>Q (.ref H₁.length) (H₁++[.list vs])):WX T (.list as) ρ H Q:=WX.step (Ev.bnd (Ev.mono h fun _ _ q=>Ev.all (fun _ _=>rfl) q))
theorem WX.dict {ws:List X} (q:Q (.ref H.length) (H++[.dict []])):WX T (.dict [] ws) ρ H Q:=WX.step (Ev.all (fun _ _=>rfl) q)
theorem WX.bop1 {b:Bool} (h:WX T a ρ H Q):WX T (.bop b [a]) ρ H Q:=WX.step h
theorem WX.bop {b:Bool} {c:X} {cs:List X} (h:WX T a ρ H fun u H₁=>SeeK (truthV H₁ u) b (WX T (.bop b (c::cs)) ρ H₁ Q) (Q u H₁)):WX T (.bop b (a::c::cs)) ρ H Q:=by
  refine WX.step (Ev.bnd (f:=fun k m=>(T.E k m).x a ρ) (g:=fun k m v=>bnd (truR v) fun t=>cond (t == b) (bops (T.E k m).x b ρ (c::cs)) (pur v)) (Ev.mono h ?_))
  rintro u H₁ ⟨t,ht,h1,h2⟩
  refine Ev.tru ht ?_
  by_cases e:t=b
  · obtain ⟨n,v,H',e',q⟩:=h1 e
    refine ⟨n,v,H',fun k m hk hm=>?_,q⟩
    rw [e,beq_self_eq_true]
    exact e' k (m + 1) hk (Nat.le_succ_of_le hm)
  · have e2:(t == b)=false:=beq_eq_false_iff_ne.mpr e
    exact Ev.all (fun _ _=>by rw [e2]; rfl) (h2 (by revert e; rcases t with _ | _<;>rcases b with _ | _<;>first | exact fun _=>rfl | exact fun e=>absurd rfl e))
theorem WX.min (h:WX T a ρ H (Is (.int i) H)) (k:WX T b ρ H (Is (.int j) H)) (q:Q (.int (if j < i then j else i)) H):WX T (.min a b) ρ H Q:=WX.step (Ev.bnd (g:=fun k m u=>bnd ((T.E k m).x b ρ) fun v=>intR (fun i=>intR (fun j=>pur (V.int (if j < i then j else i))) v) u) (Ev.mono h (Is.to (Ev.bnd (g:=fun _ _ v=>intR (fun j=>pur (V.int (if j < i then j else i))) v) (Ev.mono k (Is.to (Ev.pur q)))))))
theorem WX.p (p:PX ρ H x v) (q:Q v H):WX T x ρ H Q:=Ev.mono (p T) (Is.to q)
theorem WXs.p {Q:List V→Hp→Prop} (p:PXs xs ρ H vs) (q:Q vs H):WXs T xs ρ H Q:=Ev.mono (p T) (Is.to q)
theorem PX.const:PX ρ H (.const v) v:=fun _=>WX.step (Ev.pur .mk)
theorem PX.loc {i:Nat} (h:ρ[i]?=some (some v)):PX ρ H (.loc i) v:=fun _=>WX.step (Ev.lftB h (Ev.pur .mk))
theorem PX.attr (h:PX ρ H e (.ref r)) (o:H[r]?=some (.inst c fs)) (g:fget f fs=some u):PX ρ H (.attr e f) u:=fun _=>WX.step (Ev.bnd (WX.p h (Ev.ins o (Ev.lft g .mk))))
theorem PX.cmp {op:CmpOp} (h:PX ρ H a u) (k:PX ρ H b v) (c:cmpV op u v H=some w):PX ρ H (.cmp op a b) w:=fun _=>WX.cmp (WX.p h (WX.p k ⟨w,c,.mk⟩))
theorem PX.bin {op:Operator} (h:PX ρ H a u) (k:PX ρ H b v) (c:binV op u v H=some (w,H)):PX ρ H (.bin op a b) w:=fun _=>WX.bin (WX.p h (WX.p k ⟨w,H,c,.mk⟩))
theorem PX.sub (h:PX ρ H a u) (k:PX ρ H b v) (c:subV u v H=some w):PX ρ H (.sub a b) w:=fun _=>WX.sub (WX.p h (WX.p k ⟨w,c,.mk⟩))
theorem PX.not {b:Bool} (h:PX ρ H a u) (t:truthV H u=some b):PX ρ H (.not a) (.bool (!b)):=fun _=>WX.not (WX.p h ⟨b,t,.mk⟩)
theorem PX.neg (h:PX ρ H a (.int i)):PX ρ H (.neg a) (.int (-i)):=fun _=>WX.step (Ev.bnd (WX.p h (Ev.pur .mk)))
theorem PX.len (h:PX ρ H a u) (t:lenV H u=some i):PX ρ H (.len a) (.int i):=fun _=>WX.len (WX.p h ⟨i,t,.mk⟩)
theorem PX.min (h:PX ρ H a (.int i)) (k:PX ρ H b (.int j)):PX ρ H (.min a b) (.int (if j < i then j else i)):=fun T=>WX.min (h T) (k T) .mk
theorem PXs.nil:PXs [] ρ H []:=fun _=>WXs.nil .mk
theorem PXs.cons (h:PX ρ H a u) (k:PXs as ρ H us):PXs (a::as) ρ H (u::us):=fun _=>WXs.cons (WX.p h (WXs.p k .mk))
theorem PX.tup (k:PXs as ρ H us):PX ρ H (.tup as) (.tup us):=fun _=>WX.tup (WXs.p k .mk)
theorem PX.bop1 {b:Bool} (h:PX ρ H a u):PX ρ H (.bop b [a]) u:=fun T=>WX.bop1 (h T)
theorem PX.bopT {b:Bool} {c:X} {cs:List X} (h:PX ρ H a u) (t:truthV H u=some b) (k:PX ρ H (.bop b (c::cs)) v):PX ρ H (.bop b (a::c::cs)) v :=
  fun T=>WX.bop (WX.p h ⟨b,t,fun _=>k T,fun e=>absurd e (by cases b<;>decide)⟩)
theorem PX.bopF {b:Bool} {c:X} {cs:List X} (h:PX ρ H a u) (t:truthV H u=some (!b)):PX ρ H (.bop b (a::c::cs)) u :=
  fun _=>WX.bop (WX.p h ⟨!b,t,fun e=>absurd e (by cases b<;>decide),fun _=>.mk⟩)
theorem PX.and {c:X} {cs:List X} {x y:Bool} (h:PX ρ H a (.bool x)) (k:PX ρ H (.bop true (c::cs)) (.bool y)):PX ρ H (.bop true (a::c::cs)) (.bool (x && y)):=by
  rcases x with _ | _
  · exact PX.bopF h rfl
  · exact PX.bopT h rfl k
theorem PX.or {c:X} {cs:List X} {x y:Bool} (h:PX ρ H a (.bool x)) (k:PX ρ H (.bop false (c::cs)) (.bool y)):PX ρ H (.bop false (a::c::cs)) (.bool (x || y)):=by
  rcases x with _ | _
  · exact PX.bopT h rfl k
  · exact PX.bopF h rfl
theorem WX.methW (h:PX ρ H x (.ref r)) (o:H[r]?=some (.inst c fs)) (hc:T.cls[c]?=some ci) (hm:ci.meths.lookup m=some f)
    (w:WXs T as ρ H fun vs H₁=>WF T f (.ref r::vs) H₁ Q):WX T (.meth x m as) ρ H Q:=WX.methX (WX.p h ⟨_,_,_,_,_,rfl,o,hc,hm,w⟩)
theorem WX.meth (h:PX ρ H x (.ref r)) (o:H[r]?=some (.inst c fs)) (hc:T.cls[c]?=some ci) (hm:ci.meths.lookup m=some f)
    (k:PXs as ρ H vs) (w:WF T f (.ref r::vs) H Q):WX T (.meth x m as) ρ H Q:=WX.methW h o hc hm (WXs.p k w)
theorem WX.append (h:PX ρ H x (.ref r)) (o:H[r]?=some (.list us)) (w:WX T a ρ H (AppK r Q)):WX T (.append x a) ρ H Q:=by
  refine WX.step (Ev.bnd (g:=fun k m u=>bnd (lstR u) fun _=>bnd ((T.E k m).x a ρ) (appR u)) (WX.p h ?_))
  refine Ev.lst o (Ev.bnd (Ev.mono w ?_))
  rintro v H₁ ⟨vs,o,l,q⟩
  exact Ev.lst o (Ev.grd (Nat.ble_eq.mpr l) (Ev.all (fun _ _=>rfl) q))
theorem WX.pop (h:PX ρ H x (.ref r)) (o:H[r]?=some (.list us)) (l:us.getLast?=some v) (q:Q v (H.set r (.list us.dropLast))):WX T (.pop x) ρ H Q :=
  WX.step (Ev.bnd (WX.p h (Ev.lst o (Ev.lftB l (Ev.bnd (Ev.all (fun _ _=>rfl) (Ev.pur q)))))))
theorem WX.pop0 (h:PX ρ H x (.ref r)) (o:H[r]?=some (.list us)) (ha:PX ρ H a (.int i)) (hk:(small i && decide (0≤i))=true) (l:us[i.toNat]?=some v)
    (q:Q v (H.set r (.list (us.eraseIdx i.toNat)))):WX T (.pop0 x a) ρ H Q:=by
  refine WX.step (Ev.bnd (g:=fun k m u=>bnd (lstR u) fun _=>bnd ((T.E k m).x a ρ) (popAt u)) (WX.p h ?_))
  refine Ev.lst o (Ev.bnd (WX.p ha ?_))
  refine Ev.lst (g:=fun _ _ vs=>grd (small i && decide (0≤i)) (bnd (lft vs[i.toNat]?) fun v=>bnd (putO (.ref r) (.list (vs.eraseIdx i.toNat))) fun _=>pur v)) o ?_
  exact Ev.grd hk (Ev.lftB l (Ev.bnd (Ev.all (fun _ _=>rfl) (Ev.pur q))))
theorem WX.reverse (h:PX ρ H x (.ref r)) (o:H[r]?=some (.list us)) (q:Q .none (H.set r (.list us.reverse))):WX T (.reverse x) ρ H Q:=by
  refine WX.step (Ev.bnd (g:=fun _ _ u=>bnd (lstR u) fun vs=>putO u (.list vs.reverse)) (WX.p h ?_))
  exact Ev.lst o (Ev.all (fun _ _=>rfl) q)
theorem WX.slice {lo hi:Option X} {l h:Option V} {H₃:Hp} (ha:PX ρ H a u) (hl:Ev (fun k m=>evo (T.E k m).x ρ lo) H (Is l H)) (hh:Ev (fun k m=>evo (T.E k m).x ρ hi) H (Is h H)) (c:sliceV u l h H=some (w,H₃)) (q:Q w H₃):WX T (.slice a lo hi) ρ H Q:=by
  refine WX.step (Ev.bnd (g:=fun k m u=>bnd (evo (T.E k m).x ρ lo) fun l=>bnd (evo (T.E k m).x ρ hi) fun h=>sliceV u l h) (WX.p ha ?_))
  exact Ev.bnd (g:=fun k m l=>bnd (evo (T.E k m).x ρ hi) fun h=>sliceV u l h) (Ev.mono hl (Is.to (Ev.bnd (g:=fun _ _ h=>sliceV u l h) (Ev.mono hh (Is.to (Ev.all (fun _ _=>c) q))))))
end
theorem evo_none {ρ:En} {H:Hp}:Ev (fun k m=>evo (T.E k m).x ρ Option.none) H (Is Option.none H):=Ev.pur (a:=(Option.none:Option V)) .mk
theorem evo_some {ρ:En} {H:Hp} {x:X} {v:V} (p:PX ρ H x v):Ev (fun k m=>evo (T.E k m).x ρ (some x)) H (Is (some v) H):=Ev.bnd (f:=fun k m=>(T.E k m).x x ρ) (g:=fun _ _ v=>pur (some v)) (WX.p p (Ev.pur (a:=some v) .mk))
section
variable {ρ ρ₁:En} {H H₁:Hp} {Q:Fl→En→Hp→Prop} {ss:List S} {s:S} {e o:X} {v:V} {r c f i:Nat} {fs:List (Nat×V)} {ci:CI} {op:Operator}
theorem WS.step (h:Ev (fun k m=>stepS (mk T.fns k) (T.E k m) s ρ) H (Stp (fun ρ' H'=>WS T ss ρ' H' Q) Q)):WS T (s::ss) ρ H Q:=Ev.next h fun _ _=>rfl
theorem WS.nil (q:Q .next ρ H):WS T [] ρ H Q:=q
theorem WS.pass (w:WS T ss ρ H Q):WS T (.pass::ss) ρ H Q:=WS.step (Ev.pur (a:=(Fl.next,ρ)) w)
theorem WS.cont (q:Q .cont ρ H):WS T (.cont::ss) ρ H Q:=WS.step (Ev.pur (a:=(Fl.cont,ρ)) q)
theorem WS.ret (w:WX T e ρ H fun v H₁=>Q (.ret v) ρ H₁):WS T (.ret e::ss) ρ H Q:=WS.step (Ev.bnd (Ev.mono w fun v _ q=>Ev.pur (a:=(Fl.ret v,ρ)) q))
theorem WS.expr (w:WX T e ρ H fun _ H₁=>WS T ss ρ H₁ Q):WS T (.expr e::ss) ρ H Q:=WS.step (Ev.bnd (Ev.mono w fun _ _ q=>Ev.pur (a:=(Fl.next,ρ)) q))
theorem WS.asg (w:WX T e ρ H fun v H₁=>WS T ss (setLoc ρ i v) H₁ Q):WS T (.asg i e::ss) ρ H Q:=WS.step (Ev.bnd (Ev.mono w fun v _ q=>Ev.pur (a:=(Fl.next,setLoc ρ i v)) q))
theorem set_at {H:Hp} (h1:H[r]?=some (.inst c fs)) (h2:T.cls[c]?=some ci) (h3:ci.fields.contains f=true):Ev (fun k _=>setR (mk T.fns k) f v (.ref r)) H (Is .none (H.set r (.inst c (fset f v fs)))) :=
  Ev.ins h1 (Ev.lftB h2 (Ev.grd h3 (Ev.all (fun _ _=>rfl) .mk)))
inductive SetK (T:TL) (o:X) (f:Nat) (ss:List S) (ρ:En) (Q:Fl→En→Hp→Prop) (v:V) (H:Hp):Prop
  | mk (r c:Nat) (fs:List (Nat×V)) (ci:CI):PX ρ H o (.ref r)→H[r]?=some (.inst c fs)→T.cls[c]?=some ci→ci.fields.contains f=true→WS T ss ρ (H.set r (.inst c (fset f v fs))) Q→SetK T o f ss ρ Q v H
theorem WS.setattr (w:WX T e ρ H (SetK T o f ss ρ Q)):WS T (.setattr o f e::ss) ρ H Q:=by
  refine WS.step (Ev.bnd (g:=fun k m v=>bnd ((T.E k m).x o ρ) fun u=>bnd (setR (mk T.fns k) f v u) fun _=>pur (Fl.next,ρ)) (Ev.mono w ?_))
  rintro v H₁ ⟨_,_,_,_,p,h1,h2,h3,q⟩
  refine Ev.bnd (g:=fun k m u=>bnd (setR (mk T.fns k) f v u) fun _=>pur (Fl.next,ρ)) (WX.p p (Ev.bnd (Ev.mono (set_at h1 h2 h3) (Is.to (Ev.pur (a:=(Fl.next,ρ)) q)))))
theorem item_at {α:Type} {g:Nat→Nat→V→Rn α} {R:α→Hp→Prop} {o i:V} {H':Hp} (h:setItemV o i v H=some H') (q:Ev (fun k m=>g k m .none) H' R):Ev (fun k m=>bnd (itemR o i v) (g k m)) H R :=
  Ev.bnd (Ev.all (a:=.none) (H':=H') (fun _ _=>by unfold itemR; rw [h]) q)
theorem WS.setitemW {j:X} (w:WX T e ρ H fun v H₁=>WX T o ρ H₁ fun u H₂=>WX T j ρ H₂ fun k H₃=>OkE (setItemV u k v H₃) fun H₄=>WS T ss ρ H₄ Q):WS T (.setitem o j e::ss) ρ H Q:=by
  refine WS.step (Ev.bnd (g:=fun k m v=>bnd ((T.E k m).x o ρ) fun u=>bnd ((T.E k m).x j ρ) fun i=>bnd (itemR u i v) fun _=>pur (Fl.next,ρ)) (Ev.mono w fun v H₁ w=>?_))
  refine Ev.bnd (g:=fun k m u=>bnd ((T.E k m).x j ρ) fun i=>bnd (itemR u i v) fun _=>pur (Fl.next,ρ)) (Ev.mono w fun u H₂ w=>?_)
  refine Ev.bnd (g:=fun k m i=>bnd (itemR u i v) fun _=>pur (Fl.next,ρ)) (Ev.mono w ?_)
  rintro k H₃ ⟨H₄,h,q⟩
  exact item_at h (Ev.pur (a:=(Fl.next,ρ)) q)
inductive ItemK (T:TL) (o j:X) (ss:List S) (ρ:En) (Q:Fl→En→Hp→Prop) (v:V) (H:Hp):Prop
  | mk (u k:V) (H₄:Hp):PX ρ H o u→PX ρ H j k→setItemV u k v H=some H₄→WS T ss ρ H₄ Q→ItemK T o j ss ρ Q v H
theorem WS.setitem {j:X} (w:WX T e ρ H (ItemK T o j ss ρ Q)):WS T (.setitem o j e::ss) ρ H Q :=
  WS.setitemW (w.mono fun _ _ h=>h.rec fun _ _ _ p p' h q=>WX.p p (WX.p p' ⟨_,h,q⟩))
inductive UnpK (T:TL) (is:List Nat) (ss:List S) (ρ:En) (Q:Fl→En→Hp→Prop) (v:V) (H:Hp):Prop
  | mk (vs:List V) (ρ₁:En):v=.tup vs→setLocs is vs ρ=some ρ₁→WS T ss ρ₁ H Q→UnpK T is ss ρ Q v H
theorem WS.unpack {is:List Nat} (w:WX T e ρ H (UnpK T is ss ρ Q)):WS T (.unpack is e::ss) ρ H Q:=by
  refine WS.step (Ev.bnd (g:=fun _ _=>tupR (unpR is ρ)) (Ev.mono w ?_))
  rintro _ H₁ ⟨vs,ρ₁,rfl,h,q⟩
  exact Ev.lftB (g:=fun _ _ ρ'=>pur (Fl.next,ρ')) h (Ev.pur (a:=(Fl.next,ρ₁)) q)
theorem WS.augName {u w z:Int} (h:ρ[i]?=some (some (.int u))) (p:PX ρ H e (.int w)) (a:augV op u w=some z) (q:WS T ss (setLoc ρ i (.int z)) H Q):WS T (.augName i op e::ss) ρ H Q:=by
  refine WS.step (Ev.bnd (f:=fun _ _=>bnd (lft ρ[i]?) lft) (g:=fun k m=>intR fun a=>bnd ((T.E k m).x e ρ) (intR fun b=>bnd (lft (augV op a b)) fun z=>pur (Fl.next,setLoc ρ i (.int z)))) (Ev.lftB h (Ev.pur ?_)))
  refine Ev.bnd (f:=fun k m=>(T.E k m).x e ρ) (g:=fun k m=>intR fun b=>bnd (lft (augV op u b)) fun z=>pur (Fl.next,setLoc ρ i (.int z))) (WX.p p ?_)
  exact Ev.lftB (g:=fun _ _ z=>pur (Fl.next,setLoc ρ i (.int z))) a (Ev.pur (a:=(Fl.next,setLoc ρ i (.int z))) q)
theorem WS.augAttr {u w z:Int} (p:PX ρ H o (.ref r)) (h:H[r]?=some (.inst c fs)) (g:fget f fs=some (.int u)) (p':PX ρ H e (.int w)) (a:augV op u w=some z)
    (h2:T.cls[c]?=some ci) (h3:ci.fields.contains f=true) (q:WS T ss ρ (H.set r (.inst c (fset f (.int z) fs))) Q):WS T (.augAttr o f op e::ss) ρ H Q:=by
  refine WS.step (Ev.bnd (g:=fun k m u=>bnd (attrR f u) (intR fun a=>bnd ((T.E k m).x e ρ) (intR fun b=>bnd (lft (augV op a b)) fun z=>bnd (setR (mk T.fns k) f (.int z) u) fun _=>pur (Fl.next,ρ)))) (WX.p p ?_))
  refine Ev.bnd (f:=fun _ _=>attrR f (.ref r)) (g:=fun k m=>intR fun a=>bnd ((T.E k m).x e ρ) (intR fun b=>bnd (lft (augV op a b)) fun z=>bnd (setR (mk T.fns k) f (.int z) (.ref r)) fun _=>pur (Fl.next,ρ))) (Ev.ins h (Ev.lft g ?_))
  refine Ev.bnd (f:=fun k m=>(T.E k m).x e ρ) (g:=fun k m=>intR fun b=>bnd (lft (augV op u b)) fun z=>bnd (setR (mk T.fns k) f (.int z) (.ref r)) fun _=>pur (Fl.next,ρ)) (WX.p p' ?_)
  refine Ev.lftB (g:=fun k m z=>bnd (setR (mk T.fns k) f (.int z) (.ref r)) fun _=>pur (Fl.next,ρ)) a (Ev.bnd (Ev.mono (set_at h h2 h3) (Is.to (Ev.pur (a:=(Fl.next,ρ)) q))))
theorem WS.augItem {j:X} {u:V} {k x w z:Int} {H₄:Hp} (p:PX ρ H o u) (pi:PX ρ H j (.int k)) (g:subV u (.int k) H=some (.int x)) (p':PX ρ H e (.int w)) (a:augV op x w=some z) (h:setItemV u (.int k) (.int z) H=some H₄)
    (q:WS T ss ρ H₄ Q):WS T (.augItem o j op e::ss) ρ H Q:=by
  refine WS.step (Ev.bnd (g:=fun n m u=>bnd ((T.E n m).x j ρ) fun k=>bnd (fun H=>lft (subV u k H) H) (intR fun a=>bnd ((T.E n m).x e ρ) (intR fun b=>bnd (lft (augV op a b)) fun z=>bnd (itemR u k (.int z)) fun _=>pur (Fl.next,ρ)))) (WX.p p ?_))
  refine Ev.bnd (g:=fun n m k=>bnd (fun H=>lft (subV u k H) H) (intR fun a=>bnd ((T.E n m).x e ρ) (intR fun b=>bnd (lft (augV op a b)) fun z=>bnd (itemR u k (.int z)) fun _=>pur (Fl.next,ρ)))) (WX.p pi ?_)
  refine Ev.bnd (f:=fun _ _ H=>lft (subV u (.int k) H) H) (g:=fun n m=>intR fun a=>bnd ((T.E n m).x e ρ) (intR fun b=>bnd (lft (augV op a b)) fun z=>bnd (itemR u (.int k) (.int z)) fun _=>pur (Fl.next,ρ))) (Ev.eq (Ev.lft g ?_) fun _ _=>rfl)
  refine Ev.bnd (f:=fun n m=>(T.E n m).x e ρ) (g:=fun _ _=>intR fun b=>bnd (lft (augV op x b)) fun z=>bnd (itemR u (.int k) (.int z)) fun _=>pur (Fl.next,ρ)) (WX.p p' ?_)
  exact Ev.lftB (g:=fun _ _ z=>bnd (itemR u (.int k) (.int z)) fun _=>pur (Fl.next,ρ)) a (item_at h (Ev.pur (a:=(Fl.next,ρ)) q))
theorem WS.iteW {t e:List S} {c:X} (w:WX T c ρ H fun v H₁=>SeeK (truthV H₁ v) true (WS T (t++ss) ρ H₁ Q) (WS T (e++ss) ρ H₁ Q)):WS T (.ite c t e::ss) ρ H Q:=by
  refine WS.step (Ev.bnd (f:=fun k m=>bnd ((T.E k m).x c ρ) truR) (g:=fun k m b=>cond b (exs (T.E k m).s t ρ) (exs (T.E k m).s e ρ)) (Ev.bnd (Ev.mono w ?_)))
  rintro v H₁ ⟨b,e',h1,h2⟩
  refine Ev.eq (Ev.lft e' ?_) fun _ _=>rfl
  rcases b with _ | _
  · exact (h2 rfl).app.run
  · exact (h1 rfl).app.run
theorem WS.ite {c:X} {t e:List S} {b:Bool} (p:PX ρ H c (.bool b)) (h1:b=true→WS T (t++ss) ρ H Q) (h2:b=false→WS T (e++ss) ρ H Q):WS T (.ite c t e::ss) ρ H Q :=
  WS.iteW (WX.p p ⟨b,rfl,h1,h2⟩)
theorem WS.iteV {c:X} {t e:List S} {v:V} {b:Bool} (p:PX ρ H c v) (tv:truthV H v=some b) (h1:b=true→WS T (t++ss) ρ H Q) (h2:b=false→WS T (e++ss) ρ H Q):WS T (.ite c t e::ss) ρ H Q :=
  WS.iteW (WX.p p ⟨b,tv,h1,h2⟩)
noncomputable def Trn (K:En→Hp→Prop) (Q:Fl→En→Hp→Prop) (fl:Fl) (ρ:En) (H:Hp):Prop:=match fl with
  | .next=>K ρ H
  | .cont=>K ρ H
  | .ret u=>Q (.ret u) ρ H
theorem trn {K:En→Hp→Prop} {R:Fl×En→Hp→Prop} {b:List S} {f:Nat→Nat→En→Rn (Fl×En)} (h:WS T b ρ H (Trn K fun fl ρ'=>R (fl,ρ'))) (k:∀ ρ' H',K ρ' H'→Ev (fun k m=>f k m ρ') H' R) :
    Ev (fun k m=>bnd (exs (T.E k m).s b ρ) fun p=>match p.1 with | .ret _=>pur p | _=>f k m p.2) H R:=by
  refine Ev.bnd (Ev.mono h.run ?_)
  rintro ⟨fl,ρ'⟩ H' q
  rcases fl with _ | _ | v
  · exact k _ _ q
  · exact k _ _ q
  · exact Ev.pur (a:=(Fl.ret v,ρ')) q
theorem fors_ind {b:List S} {g:Hp→Option (List V)} {vs:List V} {R:Fl×En→Hp→Prop} (P:Nat→En→Hp→Prop) (src:∀ k ρ H,P k ρ H→g H=some vs)
    (turn:∀ k v ρ H,vs[k]?=some v→P k ρ H→WS T b (setLoc ρ i v) H (Trn (P (k + 1)) fun fl ρ'=>R (fl,ρ')))
    (fin:∀ ρ H,P vs.length ρ H→R (.next,ρ) H):∀ N k ρ H,k + N=vs.length→∀ M,N < M→P k ρ H→Ev (fun n m=>fors (exs (T.E n m).s b) g i M k ρ) H R:=by
  intro N
  induction N with
  | zero =>
    intro k ρ H hk M hM p
    rcases M with _ | M
    · exact absurd hM (Nat.not_lt_zero _)
    have hk:k=vs.length:=hk
    subst hk
    refine Ev.all (a:=(Fl.next,ρ)) (H':=H) (fun n m=>?_) (fin _ _ p)
    show (match g H with | none=>none | some vs=>_)=_
    rw [src _ _ _ p]
    show (match vs[vs.length]? with | none=>some ((Fl.next,ρ),H) | some v=>_)=_
    rw [List.getElem?_eq_none (Nat.le_refl _)]
  | succ N ih =>
    intro k ρ H hk M hM p
    rcases M with _ | M
    · exact absurd hM (Nat.not_lt_zero _)
    have hv:vs[k]?=some (vs[k]'(by lia)):=List.getElem?_eq_getElem (by lia)
    refine Ev.eq (trn (f:=fun n m ρ'=>fors (exs (T.E n m).s b) g i M (k + 1) ρ') (turn k _ ρ H hv p) fun ρ' H' q=>ih (k + 1) ρ' H' (by lia) M (Nat.lt_of_succ_lt_succ hM) q) fun n m=>?_
    show (match g H with | none=>none | some vs=>_)=_
    rw [src _ _ _ p]
    show (match vs[k]? with | none=>some ((Fl.next,ρ),H) | some v=>_)=_
    rw [hv]<;>rfl
inductive ForG (T:TL) (i:Nat) (g:Hp→Option (List V)) (b ss:List S) (ρ:En) (H:Hp) (Q:Fl→En→Hp→Prop):Prop
  | mk (vs:List V) (P:Nat→En→Hp→Prop):vs.length < lim→(∀ k ρ H,P k ρ H→g H=some vs)→P 0 ρ H →
      (∀ k v ρ H,vs[k]?=some v→P k ρ H→WS T b (setLoc ρ i v) H fun fl ρ' H'=>match fl with | .next=>P (k + 1) ρ' H' | .cont=>P (k + 1) ρ' H' | .ret u=>Q (.ret u) ρ' H') →
      (∀ ρ H,P vs.length ρ H→WS T ss ρ H Q)→ForG T i g b ss ρ H Q
theorem WS.for {isR:Bool} {src:List X} {b:List S} (w:WXs T src ρ H fun us H₁=>OkE (srcOf isR us H₁) fun g=>ForG T i g b ss ρ H₁ Q):WS T (.forr i isR src b::ss) ρ H Q:=by
  refine WS.step (Ev.bnd (g:=fun k m vs=>bnd (srcR isR vs) fun g=>fors (exs (T.E k m).s b) g i lim 0 ρ) (Ev.mono w ?_))
  rintro us H₁ ⟨g,hg,vs,P,hl,hs,p0,turn,fin⟩
  refine Ev.bnd (f:=fun _ _=>srcR isR us) (g:=fun k m g=>fors (exs (T.E k m).s b) g i lim 0 ρ) (Ev.eq (Ev.lft hg ?_) fun _ _=>rfl)
  exact fors_ind P hs (fun k v ρ H hv p=>(turn k v ρ H hv p).mono fun fl ρ' H' q=>by rcases fl with _ | _ | u<;>exact q) fin vs.length 0 ρ H₁ (Nat.zero_add _) lim hl p0
theorem whiles_ind {c:X} {b:List S} {R:Fl×En→Hp→Prop} (P:Nat→En→Hp→Prop)
    (turn:∀ k ρ H,P k ρ H→WX T c ρ H fun v H₁=>SeeK (truthV H₁ v) false (R (.next,ρ) H₁) (WS T b ρ H₁ (Trn (fun ρ' H'=>∃ k',k' < k∧P k' ρ' H') fun fl ρ'=>R (fl,ρ')))) :
    ∀ M k ρ H,k < M→P k ρ H→Ev (fun n m=>whiles (fun ρ=>bnd ((T.E n m).x c ρ) truR) (exs (T.E n m).s b) M ρ) H R:=by
  intro M
  induction M with
  | zero=>exact fun k ρ H h=>absurd h (Nat.not_lt_zero _)
  | succ M ih =>
    intro k ρ H hk p
    refine Ev.bnd (f:=fun n m=>bnd ((T.E n m).x c ρ) truR) (Ev.bnd (Ev.mono (turn k ρ H p) ?_))
    rintro v H₁ ⟨t,ht,h1,h2⟩
    refine Ev.eq (Ev.lft ht ?_) fun _ _=>rfl
    rcases t with _ | _
    · exact Ev.pur (a:=(Fl.next,ρ)) (h1 rfl)
    · exact trn (f:=fun n m ρ'=>whiles (fun ρ=>bnd ((T.E n m).x c ρ) truR) (exs (T.E n m).s b) M ρ') (h2 rfl) fun ρ' H' ⟨k',hk',p'⟩=>ih k' ρ' H' (Nat.lt_of_lt_of_le hk' (Nat.le_of_lt_succ hk)) p'
theorem WS.while {c:X} {b:List S} (P:Nat→En→Hp→Prop) {k:Nat} (hk:k < lim) (p0:P k ρ H)
    (turn:∀ k ρ H,P k ρ H→WX T c ρ H fun v H₁=>SeeK (truthV H₁ v) false (WS T ss ρ H₁ Q) (WS T b ρ H₁ fun fl ρ' H'=>match fl with | .next=>∃ k',k' < k∧P k' ρ' H' | .cont=>∃ k',k' < k∧P k' ρ' H' | .ret u=>Q (.ret u) ρ' H')) :
    WS T (.while c b::ss) ρ H Q :=
  WS.step (whiles_ind P (fun k ρ H p=>(turn k ρ H p).mono fun v H₁ h=>h.rec fun t ht h1 h2=>⟨t,ht,h1,fun e=>(h2 e).mono fun fl ρ' H' q=>by rcases fl with _ | _ | u<;>exact q⟩) lim k ρ H hk p0)
end
section
variable {elt src x y:X} {c:Option X} {ρ:En} {H:Hp} {Q:V→Hp→Prop} {g:Hp→Option (List V)} {isR:Bool}
noncomputable def WC (T:TL) (c:Option X) (ρ:En) (H:Hp) (Q:Bool→Hp→Prop):Prop:=Ev (fun k m=>condR (T.E k m).x c ρ) H Q
theorem WC.none {Q:Bool→Hp→Prop} (q:Q true H):WC T none ρ H Q:=Ev.pur q
theorem WC.some {c:X} {Q:Bool→Hp→Prop} (w:WX T c ρ H fun v H₁=>OkE (truthV H₁ v) fun t=>Q t H₁):WC T (some c) ρ H Q:=Ev.bnd (Ev.mono w fun v H₁ h=>h.rec fun t ht q=>Ev.eq (Ev.lft ht q) fun _ _=>rfl)
inductive PutK (r:Nat) (out:List V) (K:V→Hp→Prop) (u:V) (H:Hp):Prop
  | mk:H[r]?=some (.list out)→out.length < lim→K u (H.set r (.list (out++[u])))→PutK r out K u H
inductive TurnK (A B:Prop) (t:Bool):Prop
  | mk:(t=false→A)→(t=true→B)→TurnK A B t
theorem comps_ind {r:Nat} {vs:List V} {R:V→Hp→Prop} (P:Nat→List V→Hp→Prop) (src:∀ k out H,P k out H→g H=some vs)
    (turn:∀ k v out H,vs[k]?=some v→P k out H→WC T c (ρ++[some v]) H fun t H₁=>TurnK (P (k + 1) out H₁) (WX T elt (ρ++[some v]) H₁ (PutK r out fun u=>P (k + 1) (out++[u]))) t)
    (fin:∀ out H,P vs.length out H→R (.ref r) H):∀ N k out H,k + N=vs.length→∀ M,N < M→P k out H→Ev (fun n m=>comps (T.E n m).x g elt c r M k ρ) H R:=by
  intro N
  induction N with
  | zero =>
    intro k out H hk M hM p
    rcases M with _ | M
    · exact absurd hM (Nat.not_lt_zero _)
    have hk:k=vs.length:=hk
    subst hk
    refine Ev.all (a:=.ref r) (H':=H) (fun n m=>?_) (fin _ _ p)
    show (match g H with | none=>none | some vs=>_)=_
    rw [src _ _ _ p]
    show (match vs[vs.length]? with | none=>some (V.ref r,H) | some v=>_)=_
    rw [List.getElem?_eq_none (Nat.le_refl _)]
  | succ N ih =>
    intro k out H hk M hM p
    rcases M with _ | M
    · exact absurd hM (Nat.not_lt_zero _)
    obtain ⟨v,hv⟩:∃ v,vs[k]?=some v:=⟨_,List.getElem?_eq_getElem (by lia)⟩
    have next:=fun out H q=>ih (k + 1) out H (by lia) M (Nat.lt_of_succ_lt_succ hM) q
    refine Ev.eq (f':=fun n m=>bnd (condR (T.E n m).x c (ρ++[some v])) fun t=>bnd (cond t (bnd ((T.E n m).x elt (ρ++[some v])) (appR (.ref r))) (pur .none)) fun _=>comps (T.E n m).x g elt c r M (k + 1) ρ) (Ev.bnd (Ev.mono (turn k v out H hv p) ?_)) fun n m=>?_
    · rintro t H₁ ⟨h1,h2⟩
      rcases t with _ | _
      · exact Ev.bnd (Ev.pur (a:=V.none) (next out H₁ (h1 rfl)))
      · exact Ev.bnd (Ev.bnd (Ev.mono (h2 rfl) fun u H₂ h=>h.rec fun ho hl q=>Ev.lst ho (Ev.grd (Nat.ble_eq.mpr hl) (Ev.all (a:=V.none) (fun _ _=>rfl) (next _ _ q)))))
    · show (match g H with | none=>none | some vs=>_)=_
      rw [src _ _ _ p]
      show (match vs[k]? with | none=>some (V.ref r,H) | some v=>_)=_
      rw [hv]
inductive CompG (T:TL) (elt:X) (g:Hp→Option (List V)) (c:Option X) (ρ:En) (H:Hp) (Q:V→Hp→Prop):Prop
  | mk (vs:List V) (P:Nat→List V→Hp→Prop):vs.length < lim→(∀ k out H,P k out H→g H=some vs)→P 0 [] (H++[.list []]) →
      (∀ k v out H₂,vs[k]?=some v→P k out H₂→WC T c (ρ++[some v]) H₂ fun t H₃=>TurnK (P (k + 1) out H₃) (WX T elt (ρ++[some v]) H₃ (PutK H.length out fun u=>P (k + 1) (out++[u]))) t) →
      (∀ out H',P vs.length out H'→Q (.ref H.length) H')→CompG T elt g c ρ H Q
theorem WX.comp {src:List X} (w:WXs T src ρ H fun us H₁=>OkE (srcOf isR us H₁) fun g=>CompG T elt g c ρ H₁ Q):WX T (.comp elt isR src c) ρ H Q:=by
  refine WX.step (Ev.bnd (g:=fun k m vs=>bnd (srcR isR vs) fun g=>bnd (mkList []) fun u=>match u with | .ref r=>comps (T.E k m).x g elt c r lim 0 ρ | _=>non) (Ev.mono w ?_))
  rintro us H₁ ⟨g,hg,vs,P,hl,hs,p0,turn,fin⟩
  refine Ev.bnd (f:=fun _ _=>srcR isR us) (g:=fun k m g=>bnd (mkList []) fun u=>match u with | .ref r=>comps (T.E k m).x g elt c r lim 0 ρ | _=>non) (Ev.eq (Ev.lft hg ?_) fun _ _=>rfl)
  refine Ev.bnd (f:=fun _ _=>mkList []) (g:=fun k m u=>match u with | .ref r=>comps (T.E k m).x g elt c r lim 0 ρ | _=>non) (Ev.all (fun _ _=>rfl) ?_)
  exact comps_ind P hs turn fin vs.length 0 [] _ (Nat.zero_add _) lim hl p0
end
section
variable {i r:Nat} {b ss:List S} {ρ:En} {H:Hp} {Q:Fl→En→Hp→Prop} {x y src:X} {m n:Int}
noncomputable def look (r:Nat):Hp→Option (List V):=listAt r
theorem src_listP {vs:List V} {H:Hp} (h:H[r]?=some (.list vs)):srcOf false [.ref r] H=some (look r):=congrArg (Option.map fun _=>listAt r) (list_at h)
theorem look_at {vs:List V} {H:Hp} (h:H[r]?=some (.list vs)):look r H=some vs:=list_at h
theorem src_range1 {H:Hp} (h:small n=true):srcOf true [.int n] H=some fun _=>some (rangeInts 0 n):=by
  show cond (small n) _ _=_
  rw [h]; rfl
theorem src_range2 {H:Hp} (h:small m=true) (h':small n=true):srcOf true [.int m,.int n] H=some fun _=>some (rangeInts m n):=by
  show cond (small m && small n) _ _=_
  rw [h,h']; rfl
theorem ForG.list (vs:List V) (P:Nat→En→Hp→Prop) (hl:vs.length < lim) (hs:∀ k ρ H,P k ρ H→H[r]?=some (.list vs)) (p0:P 0 ρ H)
    (turn:∀ k v ρ H,vs[k]?=some v→P k ρ H→WS T b (setLoc ρ i v) H fun fl ρ' H'=>match fl with | .next=>P (k + 1) ρ' H' | .cont=>P (k + 1) ρ' H' | .ret u=>Q (.ret u) ρ' H')
    (fin:∀ ρ H,P vs.length ρ H→WS T ss ρ H Q):ForG T i (look r) b ss ρ H Q:=⟨vs,P,hl,fun k ρ H p=>look_at (hs k ρ H p),p0,turn,fin⟩
theorem range_at {x y:Int} {k:Nat} {v:V} (h:(rangeInts x y)[k]?=some v):k < (y - x).toNat∧v=.int (x + k):=by
  obtain ⟨z,hz,e⟩:=Option.map_eq_some_iff.mp ((List.getElem?_map ..).symm.trans h)
  obtain ⟨hk,e'⟩:=List.getElem?_eq_some_iff.mp hz
  rw [List.getElem_range] at e'
  subst e'
  exact ⟨by rw [List.length_range] at hk; exact hk,e.symm⟩
theorem ForG.range {x y:Int} (P:Nat→En→Hp→Prop) (hl:(y - x).toNat < lim) (p0:P 0 ρ H)
    (turn:∀ k ρ H,k < (y - x).toNat→P k ρ H→WS T b (setLoc ρ i (.int (x + k))) H fun fl ρ' H'=>match fl with | .next=>P (k + 1) ρ' H' | .cont=>P (k + 1) ρ' H' | .ret u=>Q (.ret u) ρ' H')
    (fin:∀ ρ H,P (y - x).toNat ρ H→WS T ss ρ H Q):ForG T i (fun _=>some (rangeInts x y)) b ss ρ H Q:=by
  have len:(rangeInts x y).length=(y - x).toNat:=(List.length_map ..).trans List.length_range
  refine ⟨rangeInts x y,P,len▸hl,fun _ _ _ _=>rfl,p0,fun k v ρ H hv p=>?_,len▸fin⟩
  obtain ⟨hk,e⟩:=range_at hv
  subst e
  exact turn k ρ H hk p
inductive LstK (K:Nat→Prop) (u:V) (H:Hp):Prop
  | mk (r:Nat) (vs:List V):u=.ref r→H[r]?=some (.list vs)→K r→LstK K u H
theorem LstK.go {K:(Hp→Option (List V))→Prop} {u:V} {H:Hp} (h:LstK (fun r=>K (look r)) u H):OkE (srcOf false [u] H) K:=by
  obtain ⟨r,vs,rfl,h,f⟩:=h
  exact ⟨_,src_listP h,f⟩
theorem WS.forList (w:WX T src ρ H fun u H₁=>LstK (fun r=>ForG T i (look r) b ss ρ H₁ Q) u H₁):WS T (.forr i false [src] b::ss) ρ H Q :=
  WS.for (WXs.cons (w.mono fun _ _ h=>WXs.nil (LstK.go (K:=fun g=>ForG T i g b ss ρ _ Q) h)))
inductive RngK (K:Int→Prop) (u:V):Prop
  | mk (n:Int):u=.int n→small n=true→K n→RngK K u
theorem WS.forRange1 (w:WX T y ρ H fun u H₁=>RngK (fun n=>ForG T i (fun _=>some (rangeInts 0 n)) b ss ρ H₁ Q) u):WS T (.forr i true [y] b::ss) ρ H Q:=by
  refine WS.for (WXs.cons (w.mono ?_))
  rintro _ H₁ ⟨n,rfl,h,f⟩
  exact WXs.nil ⟨_,src_range1 h,f⟩
theorem WS.forRange2 (hx:PX ρ H x (.int m)) (hy:PX ρ H y (.int n)) (hm:small m=true) (hn:small n=true)
    (f:ForG T i (fun _=>some (rangeInts m n)) b ss ρ H Q):WS T (.forr i true [x,y] b::ss) ρ H Q :=
  WS.for (WXs.p (PXs.cons hx (PXs.cons hy PXs.nil)) ⟨_,src_range2 hm hn,f⟩)
end
section
variable {elt src x y:X} {c:Option X} {ρ:En} {H:Hp} {Q:V→Hp→Prop} {m n:Int}
theorem WX.compList (w:WX T src ρ H fun u H₁=>LstK (fun r=>CompG T elt (look r) c ρ H₁ Q) u H₁):WX T (.comp elt false [src] c) ρ H Q :=
  WX.comp (WXs.cons (w.mono fun _ _ h=>WXs.nil (LstK.go (K:=fun g=>CompG T elt g c ρ _ Q) h)))
theorem WX.compRange1 (hy:PX ρ H y (.int n)) (hn:small n=true) (w:CompG T elt (fun _=>some (rangeInts 0 n)) c ρ H Q):WX T (.comp elt true [y] c) ρ H Q :=
  WX.comp (WXs.p (PXs.cons hy PXs.nil) ⟨_,src_range1 hn,w⟩)
theorem WX.compRange2 (hx:PX ρ H x (.int m)) (hy:PX ρ H y (.int n)) (hm:small m=true) (hn:small n=true) (w:CompG T elt (fun _=>some (rangeInts m n)) c ρ H Q):WX T (.comp elt true [x,y] c) ρ H Q :=
  WX.comp (WXs.p (PXs.cons hx (PXs.cons hy PXs.nil)) ⟨_,src_range2 hm hn,w⟩)
end
noncomputable def outOf:Fl→V
  | .ret v=>v
  | _=>.none
theorem WF.go {F:List FI} {d f:Nat} {vs:List V} {H:Hp} {Q:V→Hp→Prop} {fi:FI} (hf:(progFns++F)[f]?=some fi) (hl:vs.length=fi.npar)
    (w:WS (mkL F d) fi.code (vs.map some++List.replicate (fi.nloc - fi.npar) none) H fun fl _ H'=>Q (outOf fl) H'):WF (mkL F (d + 1)) f vs H Q:=by
  obtain ⟨n,p,H',e,q⟩:=w.run
  refine ⟨n,flV p.1,H',fun k m hk hm=>?_,q⟩
  show bnd (lft (progFns++F)[f]?) (fun fi=>callF (mk F k) (evF (mk F k) d) fi vs) H=_
  rw [hf]
  show grd (Nat.beq vs.length fi.npar) _ H=_
  rw [hl,Nat.beq_refl]
  refine Eq.trans (b:=bnd (exs ((mkL F d).E k k).s fi.code (vs.map some++List.replicate (fi.nloc - fi.npar) none)) (fun p=>pur (flV p.1)) H) rfl ?_
  have e:exs ((mkL F d).E k k).s fi.code (vs.map some++List.replicate (fi.nloc - fi.npar) none) H=some (p,H'):=e k k hk hk
  unfold bnd
  rw [e]; rfl
end
end Mine
end
section
open PySem
namespace Mine
structure Msg where
  kind:Int
  to:Int
  frm:Int
  term:Int
  lt:Int
  ix:Int
  rej:Bool
  tr:Bool
  deriving DecidableEq
structure CfP where
  voters:List Int
  outgoing:List Int
  learners:List Int
  deriving DecidableEq
structure El where
  nid:Int
  check:Bool
  pre:Bool
  term:Int
  vote:Int
  state:Int
  leader:Int
  elapsed:Int
  timeout:Int
  draws:Int
  last:Int×Int
  votes:List (Int×Bool)
  conf:CfP
  out:List Msg
noncomputable def rstep (out:List Int) (n:Int):List Int:=if out=[]∨out.getLast?≠some n then out++[n] else out
noncomputable def risingP (ids:List Int):List Int:=(isort ids).foldl rstep []
noncomputable def CfP.allV (C:CfP):List Int:=risingP (C.voters++C.outgoing)
noncomputable def CfP.members (C:CfP):List Int:=risingP (C.voters++C.outgoing++C.learners)
noncomputable def vget (votes:List (Int×Bool)) (n:Int):Option Bool:=votes.lookup n
noncomputable def yes (votes:List (Int×Bool)) (ids:List Int):Nat:=ids.countP fun n=>vget votes n == some true
noncomputable def miss (votes:List (Int×Bool)) (ids:List Int):Nat:=ids.countP fun n=>vget votes n == none
noncomputable def majP (ids:List Int) (votes:List (Int×Bool)):Int :=
  if ids=[] then 3 else
  if ids.length / 2 + 1≤yes votes ids then 3 else
  if ids.length / 2 + 1≤yes votes ids + miss votes ids then 1 else 2
noncomputable def jointP (a b:List Int) (votes:List (Int×Bool)):Int :=
  if majP a votes=majP b votes then majP a votes else
  if majP a votes=2∨majP b votes=2 then 2 else 1
namespace El
noncomputable def tally (E:El):Int:=jointP E.conf.voters E.conf.outgoing E.votes
noncomputable def promotable (E:El):Bool:=decide (E.nid∈E.conf.allV)
noncomputable def jit (E:El):Int:=if E.draws % 2=0 then E.nid % 2 else 0
noncomputable def reset (E:El) (term:Int):El :=
  { E with term:=term,vote:=if E.term=term then E.vote else 0,leader:=0,elapsed:=0,timeout:=2 + E.jit,draws:=E.draws + 1,votes:=[] }
noncomputable def becomeFollower (E:El) (term leader:Int):El:={ E.reset term with leader:=leader,state:=0 }
noncomputable def becomeCandidate (E:El):El:={ E.reset (E.term + 1) with vote:=E.nid,state:=1 }
noncomputable def becomePre (E:El):El:={ E with votes:=[],leader:=0,state:=3 }
noncomputable def becomeLeader (E:El):El:={ E.reset E.term with leader:=E.nid,state:=2 }
noncomputable def record (E:El) (n:Int) (ok:Bool):El:=if (vget E.votes n).isSome then E else { E with votes:=(n,ok)::E.votes }
noncomputable def reqs (E:El) (asked term:Int) (tr:Bool):List Msg :=
  (E.conf.allV.filter fun j=>decide (j≠E.nid)).map fun j=>{ kind:=asked,to:=j,frm:=E.nid,term:=term,lt:=E.last.2,ix:=E.last.1,rej:=false,tr:=tr }
noncomputable def campaignE (E:El) (kind:Int):El :=
  let E₁:=E.becomeCandidate.record E.becomeCandidate.nid true
  if E₁.tally=3 then E₁.becomeLeader else { E₁ with out:=E₁.out++E₁.reqs 5 E₁.term (decide (kind=3)) }
noncomputable def campaignP (E:El):El :=
  let E₁:=E.becomePre.record E.becomePre.nid true
  if E₁.tally=3 then E₁.campaignE 2 else { E₁ with out:=E₁.out++E₁.reqs 17 (E₁.term + 1) false }
noncomputable def campaign (E:El) (kind:Int):El:=if kind=1 then E.campaignP else E.campaignE kind
noncomputable def hup (E:El) (kind:Int):El:=if E.state=2∨E.promotable=false then E else E.campaign kind
noncomputable def won (E:El):El:=if E.state=3 then E.campaignE 2 else E.becomeLeader
noncomputable def send (E:El) (m:Msg):El:={ E with out:=E.out++[m] }
noncomputable def answerLower (E:El) (m:Msg):El :=
  if (m.kind=3∨m.kind=8)∧(E.check=true∨E.pre=true) then E.send { kind:=4,to:=m.frm,frm:=E.nid,term:=E.term,lt:=0,ix:=0,rej:=false,tr:=false }
  else if m.kind=17 then E.send { kind:=18,to:=m.frm,frm:=E.nid,term:=E.term,lt:=0,ix:=0,rej:=true,tr:=false }
  else E
noncomputable def canVote (E:El) (m:Msg):Bool:=decide (E.vote=m.frm) || (decide (E.vote=0) && decide (E.leader=0)) || (decide (m.kind=17) && decide (E.term < m.term))
noncomputable def upToDate (E:El) (ix lt:Int):Bool:=decide (E.last.2 < lt) || (decide (lt=E.last.2) && decide (E.last.1≤ix))
noncomputable def answerVote (E:El) (m:Msg):El :=
  if (E.canVote m && E.upToDate m.ix m.lt)=true then
    let E₁:=E.send { kind:=m.kind + 1,to:=m.frm,frm:=E.nid,term:=m.term,lt:=0,ix:=0,rej:=false,tr:=false }
    if m.kind=5 then { E₁ with elapsed:=0,vote:=m.frm } else E₁
  else E.send { kind:=m.kind + 1,to:=m.frm,frm:=E.nid,term:=E.term,lt:=0,ix:=0,rej:=true,tr:=false }
noncomputable def inLease (E:El):Bool:=E.check && !decide (E.leader=0) && decide (E.elapsed < 2)
noncomputable def fromLead (k:Int):Bool:=decide (k=3) || decide (k=8) || decide (k=7)
noncomputable def settleHigher (E:El) (m:Msg):El×Bool :=
  if (m.kind=5∨m.kind=17)∧m.tr=false∧E.inLease=true then (E,false)
  else if m.kind=17 then (E,true)
  else if m.kind=18∧m.rej=false then (E,true)
  else if fromLead m.kind=true then (E.becomeFollower m.term m.frm,true) else (E.becomeFollower m.term 0,true)
noncomputable def mayLack (k:Int):Bool:=decide (k=0) || decide (k=1) || decide (k=10) || decide (k=11) || decide (k=12) || decide (k=2) || decide (k=15) || decide (k=13)
noncomputable def settle (E:El) (m:Msg):El×Bool :=
  if m.term=0 then (E,mayLack m.kind)
  else if E.term < m.term then E.settleHigher m
  else if m.term < E.term then (E.answerLower m,false)
  else (E,true)
noncomputable def stepFollower (E:El) (m:Msg):El :=
  if fromLead m.kind=true then { E with elapsed:=0,leader:=m.frm } else if m.kind=14 then E.hup 3 else E
noncomputable def polled (E:El) (m:Msg):El :=
  let E₁:=E.record m.frm (!m.rej)
  if E₁.tally=3 then E₁.won else if E₁.tally=2 then E₁.becomeFollower E₁.term 0 else E₁
noncomputable def stepCandidate (E:El) (m:Msg):El :=
  if fromLead m.kind=true then E.becomeFollower m.term m.frm
  else if E.state=3 then (if m.kind=18 then E.polled m else E)
  else (if m.kind=6 then E.polled m else E)
noncomputable def after (E:El) (m:Msg):El :=
  if m.kind=0 then E.hup (if E.pre=true then 1 else 2)
  else if m.kind=5∨m.kind=17 then E.answerVote m
  else if E.state=2 then E
  else if E.state=0 then E.stepFollower m
  else E.stepCandidate m
noncomputable def step (E:El) (m:Msg):El:=if (E.settle m).2=true then (E.settle m).1.after m else (E.settle m).1
noncomputable def hupMsg (n:Int):Msg:={ kind:=0,to:=n,frm:=n,term:=0,lt:=0,ix:=0,rej:=false,tr:=false }
noncomputable def tick (E:El):El :=
  if E.state=2 then E
  else if E.promotable=true∧E.timeout≤E.elapsed + 1 then { E with elapsed:=0 }.step (hupMsg E.nid)
  else { E with elapsed:=E.elapsed + 1 }
end El
noncomputable def El.raw (nid:Int) (chk pre:Bool):El:={ nid:=nid,check:=chk,pre:=pre,term:=0,vote:=0,state:=0,leader:=0,elapsed:=0,timeout:=2,draws:=0,last:=(0,0),votes:=[],conf:=⟨[],[],[]⟩,out:=[] }
noncomputable def El.born (nid:Int) (chk pre:Bool):El:=(El.raw nid chk pre).becomeFollower 0 0
end Mine
end
section
open PySem
namespace Mine
structure Gh where
  t:List Nat
  h:Hp
noncomputable def At (G:Gh) (τ:Nat) (r:Nat) (o:O):Prop:=G.t[r]?=some τ∧G.h[r]?=some o
structure Ext (S:Nat→Prop) (B G:Gh):Prop where
  lenB:B.t.length=B.h.length
  len:G.t.length=G.h.length
  pre:∃ u,G.t=B.t++u
  keep:∀ r τ o,¬ S τ→At B τ r o→At G τ r o
theorem Ext.refl {S:Nat→Prop} {G:Gh} (h:G.t.length=G.h.length):Ext S G G:=⟨h,h,⟨[],by simp⟩,fun _ _ _ _ a=>a⟩
theorem Ext.trans {S:Nat→Prop} {A B C:Gh} (x:Ext S A B) (y:Ext S B C):Ext S A C:=by
  obtain ⟨u,hu⟩:=x.pre; obtain ⟨v,hv⟩:=y.pre
  exact ⟨x.lenB,y.len,⟨u++v,by rw [hv,hu,List.append_assoc]⟩,fun r τ o n a=>y.keep r τ o n (x.keep r τ o n a)⟩
theorem Ext.weaken {S R:Nat→Prop} {A B:Gh} (x:Ext S A B) (k:∀ τ,S τ→R τ):Ext R A B:=⟨x.lenB,x.len,x.pre,fun r τ o n a=>x.keep r τ o (fun s=>n (k _ s)) a⟩
theorem At.ne {G:Gh} {τ σ r q:Nat} {o p:O} (a:At G τ r o) (b:At G σ q p) (h:τ≠σ∨o≠p):r≠q:=by
  rintro rfl
  rcases h with h | h
  · exact h (Option.some.inj (a.1.symm.trans b.1))
  · exact h (Option.some.inj (a.2.symm.trans b.2))
theorem At.lt {G:Gh} {τ r:Nat} {o:O} (a:At G τ r o):r < G.h.length:=(List.getElem?_eq_some_iff.mp a.2).1
noncomputable def Gh.new (G:Gh) (τ:Nat) (o:O):Gh:=⟨G.t++[τ],G.h++[o]⟩
noncomputable def Gh.put (G:Gh) (r:Nat) (o:O):Gh:=⟨G.t,G.h.set r o⟩
theorem Gh.new_len {G:Gh} {τ:Nat} {o:O} (h:G.t.length=G.h.length):(G.new τ o).t.length=(G.new τ o).h.length:=by simp [Gh.new,h]
theorem At.new {G:Gh} {τ σ r:Nat} {o p:O} (a:At G σ r p):At (G.new τ o) σ r p :=
  ⟨by show (G.t++[τ])[r]?=_; rw [List.getElem?_append_left (List.getElem?_eq_some_iff.mp a.1).1]; exact a.1,by show (G.h++[o])[r]?=_; rw [List.getElem?_append_left a.lt]; exact a.2⟩
theorem At.fresh {G:Gh} (h:G.t.length=G.h.length) (τ:Nat) (o:O):At (G.new τ o) τ G.h.length o :=
  ⟨by show (G.t++[τ])[G.h.length]?=_; rw [← h]; simp,by show (G.h++[o])[G.h.length]?=_; simp⟩
theorem Ext.new {S:Nat→Prop} {G:Gh} (h:G.t.length=G.h.length) (τ:Nat) (o:O):Ext S G (G.new τ o) :=
  ⟨h,Gh.new_len h,⟨[τ],rfl⟩,fun _ _ _ _ a=>a.new⟩
theorem At.put {G:Gh} {τ r:Nat} {o p:O} (a:At G τ r o):At (G.put r p) τ r p:=⟨a.1,by show (G.h.set r p)[r]?=_; rw [List.getElem?_set_self a.lt]⟩
theorem At.put_ne {G:Gh} {σ q r:Nat} {o p:O} (b:At G σ q o) (n:r≠q):At (G.put r p) σ q o:=⟨b.1,by show (G.h.set r p)[q]?=_; rw [List.getElem?_set_ne n]; exact b.2⟩
theorem Ext.put {S:Nat→Prop} {G:Gh} {τ r:Nat} {o p:O} (h:G.t.length=G.h.length) (a:At G τ r o) (s:S τ):Ext S G (G.put r p) :=
  ⟨h,by show G.t.length=(G.h.set r p).length; rw [List.length_set]; exact h,⟨[],by simp [Gh.put]⟩,fun q σ u n b=>b.put_ne (a.ne b (.inl fun e=>n (e▸s)))⟩
noncomputable def TRB:List UInt8:=[116,114,97,110,115,102,101,114]
noncomputable def mfs (m:Msg) (er:Nat):List (Nat×V) :=
  [(37,.int m.kind),(85,.int m.to),(27,.int m.frm),(80,.int m.term),(44,.int m.lt),(34,.int m.ix),(24,.ref er),(16,.int 0),(70,.none),(62,.bool m.rej),(63,.int 0),(18,.bytes (if m.tr=true then TRB else []))]
noncomputable def isMsg (G:Gh) (r:Nat) (m:Msg):Prop:=∃ er,At G 0 r (.inst 0 (mfs m er))
noncomputable def zs (is:List Int):O:=.list (is.map .int)
inductive isConf (G:Gh) (r:Nat) (C:CfP):Prop
  | mk (a b c d:Nat):At G 0 r (.inst 1 [(90,.ref a),(54,.ref b),(42,.ref c),(43,.ref d),(5,.bool false)])→At G 0 a (zs C.voters)→At G 0 b (zs C.outgoing)→At G 0 c (zs C.learners)→At G 0 d (zs [])→isConf G r C
structure Adr where
  rc:Nat
  t:Nat
  v:Nat
  q:Nat
  c:Nat
  qs:List Nat
noncomputable def efs (A:Adr) (E:El):List (Nat×V) :=
  [(17,.ref A.rc),(52,.int E.nid),(23,.int 2),(31,.int 1),(35,.tup [.int E.nid,.int 0]),(15,.bool E.check),(58,.bool E.pre),(80,.int E.term),(89,.int E.vote),(72,.int E.state),(41,.int E.leader),(51,.ref A.q),(22,.int E.elapsed),(30,.int 0),(84,.int E.timeout),(21,.int E.draws),(38,.tup [.int E.last.1,.int E.last.2]),(86,.ref A.t)]
noncomputable def vmap (vs:List (Int×Bool)):List (Int×V):=vs.map fun p=>(p.1,.bool p.2)
structure Mem (j:Nat) (A:Adr) (e:Nat) (G:Gh) (E:El):Prop where
  len:G.t.length=G.h.length
  e:At G j e (.inst 4 (efs A E))
  t:At G j A.t (.inst 2 [(17,.ref A.c),(91,.ref A.v)])
  v:At G j A.v (.dict (vmap E.votes))
  q:At G j A.q (.list (A.qs.map .ref))
  m:All2 (isMsg G) A.qs E.out
  c:isConf G A.c E.conf
theorem isMsg.ext {S:Nat→Prop} {B G:Gh} (x:Ext S B G) (n:¬ S 0) {r:Nat} {m:Msg} (h:isMsg B r m):isMsg G r m:=let ⟨er,a⟩:=h; ⟨er,x.keep _ _ _ n a⟩
theorem isConf.ext {S:Nat→Prop} {B G:Gh} (x:Ext S B G) (n:¬ S 0) {r:Nat} {C:CfP} (h:isConf B r C):isConf G r C :=
  by
  obtain ⟨a,b,c,d,p,q,r,s,t⟩:=h
  exact ⟨a,b,c,d,x.keep _ _ _ n p,x.keep _ _ _ n q,x.keep _ _ _ n r,x.keep _ _ _ n s,x.keep _ _ _ n t⟩
theorem Mem.ext {S:Nat→Prop} {B G:Gh} {j:Nat} {A:Adr} {e:Nat} {E:El} (x:Ext S B G) (n:¬ S 0) (nj:¬ S j) (h:Mem j A e B E):Mem j A e G E :=
  ⟨x.len,x.keep _ _ _ nj h.e,x.keep _ _ _ nj h.t,x.keep _ _ _ nj h.v,x.keep _ _ _ nj h.q,h.m.mono fun _ _=>isMsg.ext x n,h.c.ext x n⟩
structure St (j:Nat) (e:Nat) (B:Gh) (A:Adr) (G:Gh) (E:El):Prop where
  j0:j≠0
  mem:Mem j A e G E
  ext:Ext (·=j) B G
section
variable {j e:Nat} {B G:Gh} {A:Adr} {E:El}
theorem St.start (j0:j≠0) (m:Mem j A e G E):St j e G A G E:=⟨j0,m,.refl m.len⟩
theorem St.he (s:St j e B A G E):G.h[e]?=some (.inst 4 (efs A E)):=s.mem.e.2
theorem St.ht (s:St j e B A G E):G.h[A.t]?=some (.inst 2 [(17,.ref A.c),(91,.ref A.v)]):=s.mem.t.2
theorem St.hv (s:St j e B A G E):G.h[A.v]?=some (.dict (vmap E.votes)):=s.mem.v.2
theorem St.hq (s:St j e B A G E):G.h[A.q]?=some (.list (A.qs.map .ref)):=s.mem.q.2
theorem St.msg (s:St j e B A G E) {r:Nat} {m:Msg} (h:isMsg B r m):isMsg G r m:=h.ext s.ext fun e=>s.j0 e.symm
theorem St.at0 (s:St j e B A G E) {r:Nat} {o:O} (h:At B 0 r o):At G 0 r o:=s.ext.keep _ _ _ (fun e=>s.j0 e.symm) h
theorem St.new (s:St j e B A G E) (τ:Nat) (o:O):St j e B A (G.new τ o) E:=by
  have x:Ext (fun _=>False) G (G.new τ o):=.new s.mem.len τ o
  exact ⟨s.j0,s.mem.ext x id id,s.ext.trans (x.weaken fun _ f=>f.elim)⟩
theorem St.grow {G':Gh} (s:St j e B A G E) (x:Ext (fun _=>False) G G'):St j e B A G' E:=⟨s.j0,s.mem.ext x id id,s.ext.trans (x.weaken fun _ f=>f.elim)⟩
theorem St.pute (s:St j e B A G E) {E':El} (h1:E'.votes=E.votes) (h2:E'.conf=E.conf) (h3:E'.out=E.out):St j e B A (G.put e (.inst 4 (efs A E'))) E':=by
  have m:=s.mem
  have ne {q τ:Nat} {o:O} (b:At G τ q o) (h:j≠τ∨O.inst 4 (efs A E)≠o):At (G.put e (.inst 4 (efs A E'))) τ q o:=b.put_ne (m.e.ne b h)
  have j0:=s.j0
  have x:Ext (·=j) G (G.put e (.inst 4 (efs A E'))):=.put m.len m.e rfl
  refine ⟨s.j0,⟨x.len,m.e.put,ne m.t (.inr (by simp)),by rw [h1]; exact ne m.v (.inr (by simp)),ne m.q (.inr (by simp)),?_,?_⟩,s.ext.trans x⟩
  · rw [h3]; exact m.m.mono fun _ _=>isMsg.ext x fun e=>j0 e.symm
  · rw [h2]; exact m.c.ext x fun e=>j0 e.symm
theorem St.newv (s:St j e B A G E):St j e B { A with v:=G.h.length } ((G.new j (.dict [])).put A.t (.inst 2 [(17,.ref A.c),(91,.ref G.h.length)])) { E with votes:=[] }:=by
  have s':=s.new j (.dict [])
  have m:=s'.mem
  have j0:=s.j0
  have ne {q τ:Nat} {o:O} (b:At (G.new j (.dict [])) τ q o) (h:j≠τ∨O.inst 2 [(17,.ref A.c),(91,.ref A.v)]≠o):At ((G.new j (.dict [])).put A.t (.inst 2 [(17,.ref A.c),(91,.ref G.h.length)])) τ q o:=b.put_ne (m.t.ne b h)
  have x:Ext (·=j) (G.new j (.dict [])) ((G.new j (.dict [])).put A.t (.inst 2 [(17,.ref A.c),(91,.ref G.h.length)])):=.put m.len m.t rfl
  refine ⟨s.j0,⟨x.len,ne m.e (.inr (by simp)),m.t.put,ne (At.fresh s.mem.len j (.dict [])) (.inr (by simp)),ne m.q (.inr (by simp)),?_,?_⟩,s'.ext.trans x⟩
  · exact m.m.mono fun _ _=>isMsg.ext x fun e=>j0 e.symm
  · exact m.c.ext x fun e=>j0 e.symm
theorem St.addv (s:St j e B A G E) (n:Int) (b:Bool):St j e B A (G.put A.v (.dict (dset n (.bool b) (vmap E.votes)))) { E with votes:=(n,b)::E.votes }:=by
  have m:=s.mem
  have j0:=s.j0
  have ne {q τ:Nat} {o:O} (c:At G τ q o) (h:j≠τ∨O.dict (vmap E.votes)≠o):At (G.put A.v (.dict (dset n (.bool b) (vmap E.votes)))) τ q o:=c.put_ne (m.v.ne c h)
  have x:Ext (·=j) G (G.put A.v (.dict (dset n (.bool b) (vmap E.votes)))):=.put m.len m.v rfl
  refine ⟨s.j0,⟨x.len,ne m.e (.inr (by simp)),ne m.t (.inr (by simp)),m.v.put,ne m.q (.inr (by simp)),?_,?_⟩,s.ext.trans x⟩
  · exact m.m.mono fun _ _=>isMsg.ext x fun e=>j0 e.symm
  · exact m.c.ext x fun e=>j0 e.symm
theorem St.sent (s:St j e B A G E) {r:Nat} {msg:Msg} (h:isMsg G r msg):St j e B { A with qs:=A.qs++[r] } (G.put A.q (.list (A.qs.map .ref++[.ref r]))) { E with out:=E.out++[msg] }:=by
  have m:=s.mem
  have j0:=s.j0
  have ne {q τ:Nat} {o p:O} (c:At G τ q o) (h:j≠τ∨O.list (A.qs.map .ref)≠o):At (G.put A.q p) τ q o:=c.put_ne (m.q.ne c h)
  have x {p:O}:Ext (·=j) G (G.put A.q p):=.put m.len m.q rfl
  refine ⟨s.j0,⟨x.len,ne m.e (.inr (by simp)),ne m.t (.inr (by simp)),ne m.v (.inr (by simp)),?_,?_,?_⟩,s.ext.trans x⟩
  · rw [show (O.list (List.map V.ref ({ A with qs:=A.qs++[r] }:Adr).qs))=O.list (A.qs.map .ref++[.ref r]) by simp]; exact m.q.put
  · exact (m.m.append (.cons h .nil)).mono fun _ _=>isMsg.ext x fun e=>j0 e.symm
  · exact m.c.ext x fun e=>j0 e.symm
end
end Mine
end
section
open PySem
namespace Mine
section
variable {H:Hp} {a b k:Int} {r:Nat} {is:List Int} {vs:List V} {v:V} {bs:List (Int×Bool)}
theorem eqv_int {a b:Int}:PyData.eqv (.int a) (.int b)=decide (a=b):=by
  rw [PyData.eqv]; rfl
theorem eqv_bool {a b:Bool}:PyData.eqv (.bool a) (.bool b)=(a == b):=by rw [PyData.eqv]
theorem dec_comm {a b:Int}:decide (a=b)=decide (b=a):=decide_eq_decide.mpr eq_comm
theorem eqk:PyData.eqv (.int a) (.int k)=decide (k=a):=eqv_int.trans dec_comm
theorem cmp_eq:cmpV .Eq (.int a) (.int b) H=some (.bool (decide (a=b))):=congrArg (fun x=>some (V.bool x)) eqv_int
theorem cmp_ne:cmpV .NotEq (.int a) (.int b) H=some (.bool (!decide (a=b))):=congrArg (fun x=>some (V.bool (!x))) eqv_int
theorem cmp_eqb {a b:Bool}:cmpV .Eq (.bool a) (.bool b) H=some (.bool (a == b)):=congrArg (fun x=>some (V.bool x)) eqv_bool
theorem cmp_neb {a b:Bool}:cmpV .NotEq (.bool a) (.bool b) H=some (.bool (!(a == b))):=congrArg (fun x=>some (V.bool (!x))) eqv_bool
theorem cmp_lt:cmpV .Lt (.int a) (.int b) H=some (.bool (decide (a < b))):=rfl
theorem cmp_le:cmpV .LtE (.int a) (.int b) H=some (.bool (decide (a≤b))):=rfl
theorem cmp_gt:cmpV .Gt (.int a) (.int b) H=some (.bool (decide (b < a))):=rfl
theorem cmp_ge:cmpV .GtE (.int a) (.int b) H=some (.bool (decide (b≤a))):=rfl
theorem cmp_bytes_ne {a b:List UInt8}:cmpV .NotEq (.bytes a) (.bytes b) H=some (.bool (!(a == b))):=rfl
theorem eqk1:(PyData.eqv (.int a) (.int k) || false)=decide (k=a):=(Bool.or_false _).trans eqk
theorem cmp_in2 {k a b:Int}:cmpV .In (.int k) (.tup [.int a,.int b]) H=some (.bool (decide (k=a) || decide (k=b))) :=
  congrArg (fun x=>some (V.bool x)) (congr (congrArg _ eqk) eqk1)
theorem cmp_in3 {k a b c:Int}:cmpV .In (.int k) (.tup [.int a,.int b,.int c]) H=some (.bool (decide (k=a) || (decide (k=b) || decide (k=c)))) :=
  congrArg (fun x=>some (V.bool x)) (congr (congrArg _ eqk) (congr (congrArg _ eqk) eqk1))
theorem cmp_in4 {k a b c d:Int}:cmpV .In (.int k) (.tup [.int a,.int b,.int c,.int d]) H=some (.bool (decide (k=a) || (decide (k=b) || (decide (k=c) || decide (k=d))))) :=
  congrArg (fun x=>some (V.bool x)) (congr (congrArg _ eqk) (congr (congrArg _ eqk) (congr (congrArg _ eqk) eqk1)))
theorem cmp_in5 {k a b c d e:Int}:cmpV .In (.int k) (.tup [.int a,.int b,.int c,.int d,.int e]) H=some (.bool (decide (k=a) || (decide (k=b) || (decide (k=c) || (decide (k=d) || decide (k=e)))))) :=
  congrArg (fun x=>some (V.bool x)) (congr (congrArg _ eqk) (congr (congrArg _ eqk) (congr (congrArg _ eqk) (congr (congrArg _ eqk) eqk1))))
inductive CmpR (H:Hp):CmpOp→V→V→V→Prop
  | eq {a b:Int}:CmpR H .Eq (.int a) (.int b) (.bool (decide (a=b)))
  | ne {a b:Int}:CmpR H .NotEq (.int a) (.int b) (.bool (!decide (a=b)))
  | lt {a b:Int}:CmpR H .Lt (.int a) (.int b) (.bool (decide (a < b)))
  | le {a b:Int}:CmpR H .LtE (.int a) (.int b) (.bool (decide (a≤b)))
  | gt {a b:Int}:CmpR H .Gt (.int a) (.int b) (.bool (decide (b < a)))
  | ge {a b:Int}:CmpR H .GtE (.int a) (.int b) (.bool (decide (b≤a)))
  | eqb {a b:Bool}:CmpR H .Eq (.bool a) (.bool b) (.bool (a == b))
  | neb {a b:Bool}:CmpR H .NotEq (.bool a) (.bool b) (.bool (!(a == b)))
  | in2 {k a b:Int}:CmpR H .In (.int k) (.tup [.int a,.int b]) (.bool (decide (k=a) || decide (k=b)))
  | in3 {k a b c:Int}:CmpR H .In (.int k) (.tup [.int a,.int b,.int c]) (.bool (decide (k=a) || (decide (k=b) || decide (k=c))))
  | in4 {k a b c d:Int}:CmpR H .In (.int k) (.tup [.int a,.int b,.int c,.int d]) (.bool (decide (k=a) || (decide (k=b) || (decide (k=c) || decide (k=d)))))
  | in5 {k a b c d e:Int}:CmpR H .In (.int k) (.tup [.int a,.int b,.int c,.int d,.int e]) (.bool (decide (k=a) || (decide (k=b) || (decide (k=c) || (decide (k=d) || decide (k=e))))))
  | bytes {a b:List UInt8}:CmpR H .Eq (.bytes a) (.bytes b) (.bool (a == b))
  | bytes_ne {a b:List UInt8}:CmpR H .NotEq (.bytes a) (.bytes b) (.bool (!(a == b)))
theorem CmpR.to {op:CmpOp} {u v w:V} (h:CmpR H op u v w):cmpV op u v H=some w :=
  h.rec cmp_eq cmp_ne rfl rfl rfl rfl cmp_eqb cmp_neb cmp_in2 cmp_in3 cmp_in4 cmp_in5 rfl rfl
theorem toDs_ints (n:Nat) (is:List Int):toDs (toD n) (is.map .int)=some (is.map .int):=by
  induction is with
  | nil=>rfl
  | cons i is ih =>
    refine Eq.trans (b:=(toDs (toD n) (is.map .int)).map fun ds=>.int i::ds) ?_ (by rw [ih]; rfl)
    rcases n with _ | n<;>rfl
theorem any_ints (k:Int) (is:List Int):((is.map PyData.int).any fun y=>PyData.eqv y (.int k))=decide (k∈is):=by
  induction is with
  | nil=>rfl
  | cons i is ih=>rw [List.map_cons,List.any_cons,ih,eqk,← Bool.decide_or]; exact decide_eq_decide.mpr List.mem_cons.symm
theorem inD_ints (k:Int) (is:List Int):inD (.int k) (is.map .int)=some (decide (k∈is)):=by
  refine Eq.trans (b:=(toDs (toD 2) (is.map .int)).map fun ys=>ys.any fun y=>PyData.eqv y (.int k)) rfl ?_
  rw [toDs_ints]; exact congrArg some (any_ints k is)
theorem dict_at {es:List (Int×V)} (h:H[r]?=some (.dict es)):listAt r H=none∧dictAt r H=some es:=by unfold listAt dictAt; rw [h]; exact ⟨rfl,rfl⟩
theorem list_e (h:listAt r H=some vs):H[r]?=some (.list vs):=by
  unfold listAt at h
  rcases e:H[r]? with _ | o
  · rw [e] at h; exact nS h
  · rw [e] at h
    rcases o with vs' | _ | _ | _
    · exact congrArg (fun x=>some (O.list x)) (Option.some.inj h)
    · exact nS h
    · exact nS h
    · exact nS h
theorem listOf_e (h:listOf H v=some vs):∃ r,v=.ref r∧H[r]?=some (.list vs):=by
  rcases v with _ | _ | _ | _ | _ | _ | r<;>first | exact ⟨r,rfl,list_e h⟩ | exact nS h
theorem in_list (h:H[r]?=some (zs is)):inV H (.int k) (.ref r)=some (decide (k∈is)):=by
  show els ((listAt r H).bind (inD (.int k))) _=_
  rw [list_at h]
  show els (inD (.int k) (is.map .int)) _=_
  rw [inD_ints]; rfl
theorem cmp_in_list (h:H[r]?=some (zs is)):cmpV .In (.int k) (.ref r) H=some (.bool (decide (k∈is))):=congrArg (Option.map V.bool) (in_list h)
theorem cmp_notin_list (h:H[r]?=some (zs is)):cmpV .NotIn (.int k) (.ref r) H=some (.bool (!decide (k∈is))):=congrArg (fun o=>Option.map V.bool (Option.map not o)) (in_list h)
theorem dget_vmap (k:Int) (vs:List (Int×Bool)):dget k (vmap vs)=(vget vs k).map .bool:=by
  induction vs with
  | nil=>rfl
  | cons p vs ih =>
    obtain ⟨a,b⟩:=p
    show (if (a == k)=true then some (V.bool b) else dget k (vmap vs))=_
    rw [ih,vget,vget,List.lookup_cons]
    by_cases h:a=k
    · subst h; rw [beq_self_eq_true,if_pos rfl]; rfl
    · rw [if_neg fun e=>h (eq_of_beq e),show (k == a)=false from beq_eq_false_iff_ne.mpr fun e=>h e.symm]
theorem in_votes (h:H[r]?=some (.dict (vmap bs))):inV H (.int k) (.ref r)=some (vget bs k).isSome:=by
  have ⟨e1,e2⟩:=dict_at h
  show els ((listAt r H).bind (inD (.int k))) (els ((dictAt r H).bind fun es=>some (dget k es).isSome) _)=_
  rw [e1,e2]
  show some (dget k (vmap bs)).isSome=_
  rw [dget_vmap,Option.isSome_map]
theorem cmp_notin_votes (h:H[r]?=some (.dict (vmap bs))):cmpV .NotIn (.int k) (.ref r) H=some (.bool (!(vget bs k).isSome)):=congrArg (fun o=>Option.map V.bool (Option.map not o)) (in_votes h)
theorem sub_votes {b:Bool} (h:H[r]?=some (.dict (vmap bs))) (v:vget bs k=some b):subV (.ref r) (.int k) H=some (.bool b):=by
  have ⟨e1,e2⟩:=dict_at h
  show els ((listAt r H).bind (idxS (.int k))) (els ((dictAt r H).bind fun es=>dget k es) _)=_
  rw [e1,e2]
  show els (dget k (vmap bs)) _=_
  rw [dget_vmap,v]; rfl
theorem sub_at {i:Int} (h:H[r]?=some (.list vs)) (hs:small i=true) (e:idx vs i=some v):subV (.ref r) (.int i) H=some v:=by
  show els ((listAt r H).bind (idxS (.int i))) _=_
  rw [list_at h]
  show els (cond (small i) (idx vs i) none) _=_
  rw [hs,e]; rfl
theorem idx_at {k:Int} (h0:0≤k) (e:vs[k.toNat]?=some v):idx vs k=some v:=by
  unfold idx
  rw [decide_eq_true h0]; exact e
theorem sub_nat {i:Int} (h:H[r]?=some (.list vs)) (h0:0≤i) (hs:small i=true) (e:vs[i.toNat]?=some v):subV (.ref r) (.int i) H=some v:=sub_at h hs (idx_at h0 e)
theorem set_nat {i:Int} {v:V} (h:H[r]?=some (.list vs)) (h0:0≤i) (hs:small i=true) (hi:i.toNat < vs.length):setItemV (.ref r) (.int i) v H=some (H.set r (.list (vs.set i.toNat v))):=by
  show els ((listAt r H).bind fun vs=>cond (small i && (decide (0≤i) && decide (i.toNat < vs.length))) (some (H.set r (.list (vs.set i.toNat v)))) none) _=_
  rw [list_at h,Option.bind_some,hs,decide_eq_true h0,decide_eq_true hi]; rfl
theorem add_at {b r:Nat} {ws:List V} (h:H[r]?=some (.list vs)) (h':H[b]?=some (.list ws)) (l:vs.length + ws.length < lim):binV .Add (.ref r) (.ref b) H=some (.ref H.length,H++[.list (vs++ws)]):=by
  show ((listAt r H).bind fun xs=>(listAt b H).bind fun ys=>cond (true && decide (xs.length + ys.length < lim)) (some (V.ref H.length,H++[O.list (xs++ys)])) none)=_
  rw [list_at h,list_at h']
  show cond (true && decide (vs.length + ws.length < lim)) _ _=_
  rw [decide_eq_true l]; rfl
theorem set_votes {es:List (Int×V)} {v:V} (h:H[r]?=some (.dict es)) (l:es.length < lim):setItemV (.ref r) (.int k) v H=some (H.set r (.dict (dset k v es))):=by
  have ⟨e1,e2⟩:=dict_at h
  show els ((listAt r H).bind _) (els ((dictAt r H).bind fun es=>cond (decide (es.length < lim)) (some (H.set r (.dict (dset k v es)))) none) _)=_
  rw [e1,e2]
  show els (cond (decide (es.length < lim)) _ _) _=_
  rw [decide_eq_true l]; rfl
theorem sub_ref {i:V} (h:H[r]?=some (.list vs)):subV (.ref r) i H=idxS i vs:=by
  show els ((listAt r H).bind (idxS i)) (els ((dictAt r H).bind _) ((tdictAt r H).bind _))=_
  have e:dictAt r H=none:=by unfold dictAt; rw [h]
  have e':tdictAt r H=none:=by unfold tdictAt; rw [h]
  rw [list_at h,e,e',Option.bind_some]
  rcases idxS i vs with _ | _<;>rfl
theorem sub_lst {i:Int} (h0:0≤i) (hs:small i=true) (e:vs[i.toNat]?=some v):subV (.lst vs) (.int i) H=some v:=by
  show cond (small i) (idx vs i) none=_
  rw [hs]; exact idx_at h0 e
theorem len_list (h:H[r]?=some (.list vs)):lenV H (.ref r)=some (vs.length:Int):=congrArg (Option.map fun vs=>(List.length vs:Int)) (list_at h)
theorem len_zs (h:H[r]?=some (zs is)):lenV H (.ref r)=some (is.length:Int):=by
  rw [len_list h,List.length_map]
theorem truth_list (h:H[r]?=some (.list vs)):truthV H (.ref r)=some (!vs.isEmpty):=congrArg (Option.map fun vs=>!List.isEmpty vs) (list_at h)
theorem truth_zs (h:H[r]?=some (zs is)):truthV H (.ref r)=some (!is.isEmpty):=by
  rw [truth_list h,List.isEmpty_map]
theorem listOf_at (h:H[r]?=some (.list vs)):listOf H (.ref r)=some vs:=list_at h
theorem toInts_ints (is:List Int):toInts (is.map .int)=some is:=by
  induction is with
  | nil=>rfl
  | cons i is ih=>exact congrArg (Option.map (i::·)) ih
end
theorem ins_len (i:Int) (is:List Int):(ins i is).length=is.length + 1:=by
  induction is with
  | nil=>rfl
  | cons j js ih=>rw [ins_cons]; split<;>simp [ih]
theorem isort_len (is:List Int):(isort is).length=is.length:=by
  induction is with
  | nil=>rfl
  | cons i is ih=>exact (ins_len i _).trans (congrArg (· + 1) ih)
section
variable {Fn:List FI} {dp:Nat}
theorem risingP_take (is:List Int) (k:Nat) (v:Int) (h:(isort is)[k]?=some v):((isort is).take (k + 1)).foldl rstep []=rstep (((isort is).take k).foldl rstep []) v:=by
  rw [List.take_add_one,h]; simp
theorem last_idx (vs:List V) (v:V) (h:vs.getLast?=some v):idx vs (-1)=some v:=by
  have hn:vs≠[]:=by rintro rfl; simp at h
  have hl:0 < vs.length:=List.length_pos_iff.mpr hn
  show cond (decide ((-1:Int) ≥ 0)) _ (cond (decide (-(vs.length:Int)≤-1)) vs[(vs.length + -1:Int).toNat]? none)=_
  rw [decide_eq_true (show -(vs.length:Int)≤-1 by lia),show (vs.length + -1:Int).toNat=vs.length - 1 by lia,← h,List.getLast?_eq_getElem?]; rfl
theorem rstep_len (out:List Int) (n:Int):(rstep out n).length≤out.length + 1:=by
  unfold rstep; split<;>simp
theorem fold_rstep_len (l out:List Int):(l.foldl rstep out).length≤out.length + l.length:=by
  induction l generalizing out with
  | nil=>simp
  | cons a l ih=>have:=ih (rstep out a); have:=rstep_len out a; simp only [List.foldl_cons,List.length_cons]; lia
theorem wf_rising {G:Gh} {v:V} {is:List Int} {Q:V→Hp→Prop} (hG:G.t.length=G.h.length) (hv:listOf G.h v=some (is.map .int)) (hl:is.length < 64)
    (k:∀ G' r,Ext (fun _=>False) G G'→At G' 0 r (zs (risingP is))→Q (.ref r) G'.h):WF (mkL Fn (dp + 1)) 2 [v] G.h Q:=by
  refine WF.go rfl rfl ?_
  refine WS.asg (WX.list (WXs.nil ?_))
  have hv':listOf (G.h++[.list []]) v=some (is.map .int):=by
    obtain ⟨r,rfl,e⟩:=listOf_e hv
    exact list_at ((List.getElem?_append_left (List.getElem?_eq_some_iff.mp e).1).trans e)
  refine WS.forList (WX.sorted (WX.p (PX.loc rfl) ⟨_,is,hv',toInts_ints is,hl,_,(isort is).map .int,rfl,by simp,ForG.list ((isort is).map .int) (fun k ρ H=>(∃ x,ρ=[some v,some (.ref G.h.length),x])∧H=G.h++[zs (((isort is).take k).foldl rstep []),zs (isort is)]) ?_ ?_ ?_ ?_ ?_⟩))
  · rw [List.length_map,isort_len]; simp only [lim]; exact Nat.le_trans (by assumption) (by decide)
  · rintro k ρ H ⟨_,rfl⟩
    simp [zs]
  · exact ⟨⟨none,rfl⟩,by simp [zs]⟩
  · rintro k u ρ H hu ⟨⟨x,rfl⟩,rfl⟩
    rw [List.getElem?_map] at hu
    obtain ⟨i,hi,rfl⟩:=Option.map_eq_some_iff.mp hu
    have ho:(G.h++[zs (((isort is).take k).foldl rstep []),zs (isort is)])[G.h.length]?=some (zs (((isort is).take k).foldl rstep [])):=by simp
    have hlen:=fold_rstep_len ((isort is).take k) []
    rw [List.length_take,isort_len,List.length_nil] at hlen
    have fin:∀ b,rstep (((isort is).take k).foldl rstep []) i=(if b=true then ((isort is).take k).foldl rstep []++[i] else ((isort is).take k).foldl rstep []) →
        WS (mkL Fn dp) (if b=true then [.expr (.append (.loc 1) (.loc 2))] else []) (setLoc [some v,some (.ref G.h.length),x] 2 (.int i)) (G.h++[zs (((isort is).take k).foldl rstep []),zs (isort is)]) (fun fl ρ' H'=>match fl with
          | .next=>(∃ x,ρ'=[some v,some (.ref G.h.length),x])∧H'=G.h++[zs (((isort is).take (k + 1)).foldl rstep []),zs (isort is)]
          | .cont=>(∃ x,ρ'=[some v,some (.ref G.h.length),x])∧H'=G.h++[zs (((isort is).take (k + 1)).foldl rstep []),zs (isort is)]
          | .ret u=>Q (outOf (.ret u)) H'):=by
      intro b hb
      rw [risingP_take is k i hi,hb]
      cases b with
      | true =>
        refine WS.expr (WX.append (PX.loc rfl) ho (WX.p (PX.loc rfl) ⟨_,ho,?_,WS.nil ⟨⟨_,rfl⟩,?_⟩⟩))
        · rw [List.length_map]; simp only [lim]; lia
        · rw [if_pos rfl]; simp [zs]
      | false=>exact WS.nil ⟨⟨_,rfl⟩,rfl⟩
    by_cases h1:((isort is).take k).foldl rstep []=[]
    · refine WS.ite (b:=true) (PX.bopF (b:=false) (u:=.bool true) (by simpa [h1] using PX.not (ρ:=setLoc [some v,some (.ref G.h.length),x] 2 (.int i)) (PX.loc (i:=1) rfl) (truth_zs ho)) rfl) (fun _=>?_) (fun h=>by cases h)
      · exact (fin true (by rw [rstep,if_pos (.inl h1)]; rfl)).mono fun fl ρ' H' q=>by cases fl<;>exact q
    · obtain ⟨w,hw⟩:∃ w,(((isort is).take k).foldl rstep []).getLast?=some w:=by
        cases hg:(((isort is).take k).foldl rstep []).getLast? with
        | none=>exact absurd (List.getLast?_eq_none_iff.mp hg) h1
        | some w=>exact ⟨w,rfl⟩
      have hs:subV (.ref G.h.length) (.int (-1)) (G.h++[zs (((isort is).take k).foldl rstep []),zs (isort is)])=some (.int w):=by
        have ho':(G.h++[zs (((isort is).take k).foldl rstep []),zs (isort is)])[G.h.length]?=some (.list ((((isort is).take k).foldl rstep []).map .int)):=ho
        exact sub_at ho' rfl (last_idx _ _ (by rw [List.getLast?_map,hw]; rfl))
      refine WS.ite (b:=!decide (w=i)) (PX.bopT (b:=false) (PX.not (PX.loc rfl) (truth_zs ho)) ?_ (PX.bop1 (PX.cmp (PX.sub (PX.loc rfl) (PX.neg PX.const) hs) (PX.loc rfl) cmp_ne))) (fun h=>?_) (fun h=>?_)
      · show truthV _ (V.bool _)=_
        exact congrArg some (by simp [h1])
      · have hne:¬ w=i:=by simpa using h
        exact (fin true (by rw [rstep,if_pos (.inr (by rw [hw]; simpa using hne))]; rfl)).mono fun fl ρ' H' q=>by cases fl<;>exact q
      · have he:w=i:=by simpa using h
        exact (fin false (by rw [rstep,if_neg (by rw [hw,he]; simp [h1])]; rfl)).mono fun fl ρ' H' q=>by cases fl<;>exact q
  · rintro ρ H ⟨⟨x,rfl⟩,rfl⟩
    refine WS.ret (WX.p (PX.loc rfl) ?_)
    have hx:=(Ext.new (S:=fun _=>False) hG 0 (zs (((isort is).take ((isort is).map V.int).length).foldl rstep []))).trans (Ext.new (Gh.new_len hG) 0 (zs (isort is)))
    have:=k _ G.h.length hx (by
      have a:=(At.fresh hG 0 (zs (((isort is).take ((isort is).map V.int).length).foldl rstep []))).new (τ:=0) (o:=zs (isort is))
      rw [List.length_map,List.take_length] at a
      rw [List.length_map,List.take_length]
      exact a)
    simpa [Gh.new,outOf] using this
end
end Mine
end
local macro_rules | `(tactic| tb_rel)=>`(tactic| first
  | with_reducible first
    | exact Mine.PX.const
    | assumption
    | exact Mine.St.he (by assumption)
    | exact Mine.St.ht (by assumption)
    | exact Mine.truth_zs (by assumption)
    | exact Mine.truth_list (by assumption)
    | exact Mine.len_zs (by assumption)
    | exact Mine.len_list (by assumption)
    | (apply Mine.CmpR.to; constructor)
  | (first
    | apply Mine.PX.loc
    | apply Mine.PX.attr
    | apply Mine.PX.cmp
    | apply Mine.PX.sub
    | apply Mine.PX.bin
    | apply Mine.PX.bop1
    | apply Mine.PX.and
    | apply Mine.PX.or
    | apply Mine.PX.len
    | apply Mine.PX.tup
    | apply Mine.PX.not
    | apply Mine.PX.neg
    | apply Mine.PXs.cons)<;>tb_rel
  | exact Mine.PXs.nil
  | rfl
  | assumption)
section
open PySem
namespace Mine
section
variable {Fn:List FI} {dp:Nat} {G:Gh}
theorem yes_snoc (vs:List (Int×Bool)) (is:List Int) (k:Nat) (i:Int) (h:is[k]?=some i):yes vs (is.take (k + 1))=yes vs (is.take k) + (if vget vs i=some true then 1 else 0):=by
  unfold yes
  rw [List.take_add_one,h,Option.toList_some,List.countP_append,List.countP_singleton]
  simp
theorem miss_snoc (vs:List (Int×Bool)) (is:List Int) (k:Nat) (i:Int) (h:is[k]?=some i):miss vs (is.take (k + 1))=miss vs (is.take k) + (if vget vs i=none then 1 else 0):=by
  unfold miss
  rw [List.take_add_one,h,Option.toList_some,List.countP_append,List.countP_singleton]
  simp
theorem wf_majority {a v:Nat} {is:List Int} {vs:List (Int×Bool)} {H:Hp} {Q:V→Hp→Prop} (ha:H[a]?=some (zs is)) (hv:H[v]?=some (.dict (vmap vs))) (hl:is.length < 1000)
    (k:Q (.int (majP is vs)) H):WF (mkL Fn (dp + 1)) 6 [.ref a,.ref v] H Q:=by
  refine WF.go rfl rfl ?_
  refine WS.ite (b:=is.isEmpty) ?_ (fun h=>?_) (fun h=>?_)
  · simpa using PX.not (PX.loc (ρ:=[some (.ref a),some (.ref v),none,none,none,none]) (i:=0) rfl) (truth_zs ha)
  · refine WS.ret (WX.p PX.const ?_)
    rw [List.isEmpty_iff] at h
    have:majP is vs=3:=by unfold majP; rw [if_pos h]
    rw [this] at k; exact k
  · have hne:is≠[]:=by simpa using h
    refine WS.asg (WX.p PX.const (WS.asg (WX.p PX.const ?_)))
    refine WS.forList (WX.p (PX.loc rfl) ⟨_,is.map .int,rfl,ha,ForG.list (is.map .int) (fun k ρ H'=>H'=H∧∃ x,ρ=[some (.ref a),some (.ref v),some (.int (yes vs (is.take k))),some (.int (miss vs (is.take k))),x,none]) ?_ ?_ ?_ ?_ ?_⟩)
    · rw [List.length_map]; simp only [lim]; exact Nat.le_trans (by assumption) (by decide)
    · rintro k ρ H' ⟨rfl,_⟩; exact ha
    · exact ⟨rfl,none,rfl⟩
    · rintro n u ρ H' hu ⟨rfl,x,rfl⟩
      rw [List.getElem?_map] at hu
      obtain ⟨i,hi,rfl⟩:=Option.map_eq_some_iff.mp hu
      cases hg:vget vs i with
      | none =>
        refine WS.ite (PX.cmp (PX.loc rfl) (PX.loc rfl) (cmp_notin_votes hv)) (fun _=>?_) (fun h=>by rw [hg] at h; cases h)
        refine WS.augName rfl PX.const rfl (WS.nil ⟨rfl,some (.int i),?_⟩)
        rw [yes_snoc vs is n i hi,miss_snoc vs is n i hi,hg]
        rfl
      | some b =>
        refine WS.ite (PX.cmp (PX.loc rfl) (PX.loc rfl) (cmp_notin_votes hv)) (fun h=>by rw [hg] at h; cases h) (fun _=>?_)
        refine WS.ite (PX.sub (PX.loc rfl) (PX.loc rfl) (sub_votes hv hg)) (fun h=>?_) (fun h=>?_)
        · refine WS.augName rfl PX.const rfl (WS.nil ⟨rfl,some (.int i),?_⟩)
          rw [yes_snoc vs is n i hi,miss_snoc vs is n i hi,hg,h]
          rfl
        · refine WS.nil ⟨rfl,some (.int i),?_⟩
          rw [yes_snoc vs is n i hi,miss_snoc vs is n i hi,hg,h]
          rfl
    · rintro ρ H' ⟨rfl,x,rfl⟩
      have hd:binV .FloorDiv (.int (is.length:Int)) (.int 2) H'=some (.int ((is.length / 2:Nat):Int),H'):=rfl
      refine WS.asg (WX.p (PX.bin (PX.bin (PX.len (PX.loc rfl) (len_zs ha)) PX.const hd) PX.const rfl) ?_)
      rw [List.length_map,List.take_length]
      refine WS.ite (by tb_rel) (fun h=>?_) (fun h=>?_)
      · refine WS.ret (WX.p PX.const ?_)
        have h':=of_decide_eq_true h
        have:majP is vs=3:=by unfold majP; rw [if_neg hne,if_pos (by lia)]
        rw [this] at k; exact k
      · have h':=of_decide_eq_false h
        refine WS.ite (by tb_rel) (fun g=>?_) (fun g=>?_)
        · refine WS.ret (WX.p PX.const ?_)
          have g':=of_decide_eq_true g
          have:majP is vs=1:=by unfold majP; rw [if_neg hne,if_neg (by lia),if_pos (by lia)]
          rw [this] at k; exact k
        · refine WS.ret (WX.p PX.const ?_)
          have g':=of_decide_eq_false g
          have:majP is vs=2:=by unfold majP; rw [if_neg hne,if_neg (by lia),if_neg (by lia)]
          rw [this] at k; exact k
theorem wf_joint {a b v:Nat} {as bs:List Int} {vs:List (Int×Bool)} {H:Hp} {Q:V→Hp→Prop} (ha:H[a]?=some (zs as)) (hb:H[b]?=some (zs bs)) (hv:H[v]?=some (.dict (vmap vs))) (hl:as.length < 1000) (hl':bs.length < 1000)
    (k:Q (.int (jointP as bs vs)) H):WF (mkL Fn (dp + 2)) 8 [.ref a,.ref b,.ref v] H Q:=by
  refine WF.go rfl rfl ?_
  refine WS.asg (WX.call (WXs.p (by tb_rel) (wf_majority ha hv hl ?_)))
  refine WS.asg (WX.call (WXs.p (by tb_rel) (wf_majority hb hv hl' ?_)))
  refine WS.ite (by tb_rel) (fun h=>WS.ret (WX.p (by tb_rel) ?_)) (fun h=>?_)
  · unfold jointP at k; rw [if_pos (of_decide_eq_true h)] at k; exact k
  · have h':=of_decide_eq_false h
    refine WS.ite (by tb_rel) (fun g=>WS.ret (WX.p (by tb_rel) ?_)) (fun g=>WS.ret (WX.p (by tb_rel) ?_))
    · unfold jointP at k; rw [if_neg h',if_pos (by simpa using g)] at k; exact k
    · unfold jointP at k; rw [if_neg h',if_neg (by simpa using g)] at k; exact k
theorem wf_vote {c v:Nat} {C:CfP} {vs:List (Int×Bool)} {Q:V→Hp→Prop} (hc:isConf G c C) (hv:G.h[v]?=some (.dict (vmap vs))) (hl:C.voters.length < 1000) (hl':C.outgoing.length < 1000)
    (k:Q (.int (jointP C.voters C.outgoing vs)) G.h):WF (mkL Fn (dp + 3)) 15 [.ref c,.ref v] G.h Q:=by
  obtain ⟨a,b,d,f,h1,h2,h3,h4,h5⟩:=hc
  have h:=h1.2
  refine WF.go rfl rfl ?_
  exact WS.ret (WX.call (WXs.p (by tb_rel) (wf_joint h2.2 h3.2 hv hl hl' k)))
theorem bin_add_lists {a b:Nat} {as bs:List Int} {H:Hp} (ha:H[a]?=some (zs as)) (hb:H[b]?=some (zs bs)) (hl:as.length + bs.length < 1000):binV .Add (.ref a) (.ref b) H=some (.ref H.length,H++[zs (as++bs)]):=by
  have ha':H[a]?=some (.list (as.map .int)):=ha
  have hb':H[b]?=some (.list (bs.map .int)):=hb
  refine (add_at ha' hb' (by simp only [List.length_map,lim]; exact Nat.le_trans (by assumption) (by decide))).trans ?_
  rw [zs,List.map_append]
theorem wf_all_voters {c:Nat} {C:CfP} {Q:V→Hp→Prop} (hG:G.t.length=G.h.length) (hc:isConf G c C) (hl:C.voters.length + C.outgoing.length < 64)
    (k:∀ G' r,Ext (fun _=>False) G G'→At G' 0 r (zs C.allV)→Q (.ref r) G'.h):WF (mkL Fn (dp + 2)) 12 [.ref c] G.h Q:=by
  obtain ⟨a,b,d,f,h1,h2,h3,h4,h5⟩:=hc
  have h:=h1.2
  refine WF.go rfl rfl ?_
  refine WS.ret (WX.call (WXs.cons (WX.bin (WX.p (by tb_rel) (WX.p (by tb_rel) ⟨_,_,bin_add_lists h2.2 h3.2 (by exact Nat.le_trans (by assumption) (by decide)),WXs.nil ?_⟩)))))
  have n:=At.fresh hG 0 (zs (C.voters++C.outgoing))
  refine wf_rising (G:=G.new 0 (zs (C.voters++C.outgoing))) (is:=C.voters++C.outgoing) (Gh.new_len hG) (listOf_at n.2) (by simpa using hl) fun G' r x at'=>?_
  exact k G' r ((Ext.new hG 0 _).trans x) at'
theorem wf_members {c:Nat} {C:CfP} {Q:V→Hp→Prop} (hG:G.t.length=G.h.length) (hc:isConf G c C) (hl:C.voters.length + C.outgoing.length + C.learners.length < 64)
    (k:∀ G' r,Ext (fun _=>False) G G'→At G' 0 r (zs C.members)→Q (.ref r) G'.h):WF (mkL Fn (dp + 2)) 13 [.ref c] G.h Q:=by
  obtain ⟨a,b,d,f,h1,h2,h3,h4,h5⟩:=hc
  have h:=h1.2
  refine WF.go rfl rfl ?_
  have n:=At.fresh hG 0 (zs (C.voters++C.outgoing))
  have x1:Ext (fun _=>False) G (G.new 0 (zs (C.voters++C.outgoing))):=Ext.new hG 0 _
  have hh:=(x1.keep _ _ _ id h1).2
  refine WS.ret (WX.call (WXs.cons (WX.bin (WX.bin (WX.p (by tb_rel) (WX.p (by tb_rel) ⟨_,_,bin_add_lists h2.2 h3.2 (by lia),?_⟩))))))
  refine WX.p (x:=.attr (.loc 0) 42) (PX.attr (PX.loc rfl) hh rfl) ⟨_,_,bin_add_lists n.2 (x1.keep _ _ _ id h4).2 (by simp; exact Nat.le_trans (by assumption) (by decide)),WXs.nil ?_⟩
  have hG1:=Gh.new_len (τ:=0) (o:=zs (C.voters++C.outgoing)) hG
  have n2:=At.fresh hG1 0 (zs (C.voters++C.outgoing++C.learners))
  refine wf_rising (G:=(G.new 0 (zs (C.voters++C.outgoing))).new 0 (zs (C.voters++C.outgoing++C.learners))) (is:=C.voters++C.outgoing++C.learners) (Gh.new_len hG1) (listOf_at n2.2) (by simp; lia) fun G' r x at'=>?_
  exact k G' r ((x1.trans (Ext.new hG1 0 _)).trans x) at'
end
end Mine
end
section
open PySem
namespace Mine
section
variable {Fn:List FI} {dp:Nat} {j e:Nat} {B G:Gh} {A:Adr} {E:El} {ρ:En} {ss:List S} {Q:Fl→En→Hp→Prop} {i:Nat} {x:X}
theorem WS.self {f:Nat} {u:V} {E':El} (s:St j e B A G E) (hρ:ρ[i]?=some (some (.ref e))) (p:PX ρ G.h x u) (hf:fset f u (efs A E)=efs A E') (hc:([17,52,23,31,35,15,58,80,89,72,41,51,22,30,84,21,38,86]:List Nat).contains f=true)
    (h1:E'.votes=E.votes) (h2:E'.conf=E.conf) (h3:E'.out=E.out) (k:∀ G',St j e B A G' E'→WS (mkL Fn dp) ss ρ G'.h Q):WS (mkL Fn dp) (.setattr (.loc i) f x::ss) ρ G.h Q :=
  WS.setattr (WX.p p ⟨e,4,efs A E,_,PX.loc hρ,s.he,rfl,hc,by rw [hf]; exact k _ (s.pute h1 h2 h3)⟩)
theorem WS.set_term {t:Int} (s:St j e B A G E) (hρ:ρ[i]?=some (some (.ref e))) (p:PX ρ G.h x (.int t)) (k:∀ G',St j e B A G' { E with term:=t }→WS (mkL Fn dp) ss ρ G'.h Q):WS (mkL Fn dp) (.setattr (.loc i) 80 x::ss) ρ G.h Q :=
  WS.self (E':={ E with term:=t }) s hρ p rfl rfl rfl rfl rfl k
theorem WS.set_vote {t:Int} (s:St j e B A G E) (hρ:ρ[i]?=some (some (.ref e))) (p:PX ρ G.h x (.int t)) (k:∀ G',St j e B A G' { E with vote:=t }→WS (mkL Fn dp) ss ρ G'.h Q):WS (mkL Fn dp) (.setattr (.loc i) 89 x::ss) ρ G.h Q :=
  WS.self (E':={ E with vote:=t }) s hρ p rfl rfl rfl rfl rfl k
theorem WS.set_state {t:Int} (s:St j e B A G E) (hρ:ρ[i]?=some (some (.ref e))) (p:PX ρ G.h x (.int t)) (k:∀ G',St j e B A G' { E with state:=t }→WS (mkL Fn dp) ss ρ G'.h Q):WS (mkL Fn dp) (.setattr (.loc i) 72 x::ss) ρ G.h Q :=
  WS.self (E':={ E with state:=t }) s hρ p rfl rfl rfl rfl rfl k
theorem WS.set_leader {t:Int} (s:St j e B A G E) (hρ:ρ[i]?=some (some (.ref e))) (p:PX ρ G.h x (.int t)) (k:∀ G',St j e B A G' { E with leader:=t }→WS (mkL Fn dp) ss ρ G'.h Q):WS (mkL Fn dp) (.setattr (.loc i) 41 x::ss) ρ G.h Q :=
  WS.self (E':={ E with leader:=t }) s hρ p rfl rfl rfl rfl rfl k
theorem WS.set_elapsed {t:Int} (s:St j e B A G E) (hρ:ρ[i]?=some (some (.ref e))) (p:PX ρ G.h x (.int t)) (k:∀ G',St j e B A G' { E with elapsed:=t }→WS (mkL Fn dp) ss ρ G'.h Q):WS (mkL Fn dp) (.setattr (.loc i) 22 x::ss) ρ G.h Q :=
  WS.self (E':={ E with elapsed:=t }) s hρ p rfl rfl rfl rfl rfl k
theorem WS.set_hb (s:St j e B A G E) (hρ:ρ[i]?=some (some (.ref e))) (p:PX ρ G.h x (.int 0)) (k:∀ G',St j e B A G' E→WS (mkL Fn dp) ss ρ G'.h Q):WS (mkL Fn dp) (.setattr (.loc i) 30 x::ss) ρ G.h Q:=WS.self s hρ p rfl rfl rfl rfl rfl k
theorem WS.set_timeout {t:Int} (s:St j e B A G E) (hρ:ρ[i]?=some (some (.ref e))) (p:PX ρ G.h x (.int t)) (k:∀ G',St j e B A G' { E with timeout:=t }→WS (mkL Fn dp) ss ρ G'.h Q):WS (mkL Fn dp) (.setattr (.loc i) 84 x::ss) ρ G.h Q :=
  WS.self (E':={ E with timeout:=t }) s hρ p rfl rfl rfl rfl rfl k
theorem WS.set_last {a b:Int} (s:St j e B A G E) (hρ:ρ[i]?=some (some (.ref e))) (p:PX ρ G.h x (.tup [.int a,.int b])) (k:∀ G',St j e B A G' { E with last:=(a,b) }→WS (mkL Fn dp) ss ρ G'.h Q):WS (mkL Fn dp) (.setattr (.loc i) 38 x::ss) ρ G.h Q :=
  WS.self (E':={ E with last:=(a,b) }) s hρ p rfl rfl rfl rfl rfl k
theorem WS.aug_elapsed (s:St j e B A G E) (hρ:ρ[i]?=some (some (.ref e))) (k:∀ G',St j e B A G' { E with elapsed:=E.elapsed + 1 }→WS (mkL Fn dp) ss ρ G'.h Q):WS (mkL Fn dp) (.augAttr (.loc i) 22 .Add (.const (.int 1))::ss) ρ G.h Q :=
  WS.augAttr (PX.loc hρ) s.he rfl PX.const rfl rfl rfl (k _ (s.pute (E':={ E with elapsed:=E.elapsed + 1 }) rfl rfl rfl))
theorem WS.aug_draws (s:St j e B A G E) (hρ:ρ[i]?=some (some (.ref e))) (k:∀ G',St j e B A G' { E with draws:=E.draws + 1 }→WS (mkL Fn dp) ss ρ G'.h Q):WS (mkL Fn dp) (.augAttr (.loc i) 21 .Add (.const (.int 1))::ss) ρ G.h Q :=
  WS.augAttr (PX.loc hρ) s.he rfl PX.const rfl rfl rfl (k _ (s.pute (E':={ E with draws:=E.draws + 1 }) rfl rfl rfl))
end
section
variable {Fn:List FI} {dp:Nat} {j e:Nat} {B G:Gh} {A:Adr} {E:El} {Q:V→Hp→Prop}
structure CfP.Small (C:CfP):Prop where
  conf:C.voters.length + C.outgoing.length + C.learners.length < 64
theorem wf_reset_votes (s:St j e B A G E) (k:∀ A' G',St j e B A' G' { E with votes:=[] }→Q .none G'.h):WF (mkL Fn (dp + 1)) 18 [.ref A.t] G.h Q:=by
  refine WF.go rfl rfl ?_
  refine WS.setattr (WX.dict ?_)
  have s1:=s.new j (.dict [])
  exact ⟨A.t,2,_,_,PX.loc rfl,s1.ht,rfl,rfl,WS.nil (k _ _ s.newv)⟩
theorem wf_record (s:St j e B A G E) (hl:E.votes.length < 1000) (n:Int) (b:Bool) (k:∀ G',St j e B A G' (E.record n b)→Q .none G'.h):WF (mkL Fn (dp + 1)) 17 [.ref A.t,.int n,.bool b] G.h Q:=by
  refine WF.go rfl rfl ?_
  have ht:=s.ht
  refine WS.ite (PX.cmp (PX.loc rfl) (PX.attr (PX.loc rfl) ht rfl) (cmp_notin_votes s.hv)) (fun h=>?_) (fun h=>?_)
  · refine WS.setitem (WX.p (PX.loc rfl) ⟨.ref A.v,.int n,(G.put A.v (.dict (dset n (.bool b) (vmap E.votes)))).h,by tb_rel,by tb_rel,?_,WS.nil (k (G.put A.v (.dict (dset n (.bool b) (vmap E.votes)))) ?_)⟩)
    · exact set_votes s.hv (by simp only [vmap,List.length_map,lim]; exact Nat.le_trans (by assumption) (by decide))
    · have:E.record n b={ E with votes:=(n,b)::E.votes }:=by unfold El.record; rw [if_neg (by simpa using h)]
      rw [this]; exact s.addv n b
  · refine WS.nil (k _ ?_)
    have:E.record n b=E:=by unfold El.record; rw [if_pos (by simpa using h)]
    rw [this]; exact s
theorem wf_tally (s:St j e B A G E) (sm:E.conf.Small) (k:∀ G' a b,St j e B A G' E→Q (.tup [.int a,.int b,.int E.tally]) G'.h):WF (mkL Fn (dp + 4)) 19 [.ref A.t] G.h Q:=by
  refine WF.go rfl rfl ?_
  have ht:=s.ht
  have hc:=s.mem.c
  obtain ⟨a1,a2,a3,a4,hc1,hc2,hc3,hc4,hc5⟩:=hc
  refine WS.asg (WX.p PX.const (WS.asg (WX.p PX.const ?_)))
  refine WS.forList (WX.meth (PX.attr (PX.loc rfl) ht rfl) hc1.2 rfl rfl PXs.nil (wf_all_voters s.mem.len s.mem.c (by have:=sm.conf; lia) fun G1 r x1 hr=>?_))
  have s1:=s.grow x1
  have ht1:=s1.ht
  refine ⟨r,_,rfl,hr.2,ForG.list (E.conf.allV.map .int) (fun k ρ H'=>H'=G1.h∧∃ a b x,ρ=[some (.ref A.t),some (.int a),some (.int b),x]) ?_ ?_ ?_ ?_ ?_⟩
  · have:=fold_rstep_len (isort (E.conf.voters++E.conf.outgoing)) []
    have sl:=sm.conf
    rw [isort_len,List.length_append] at this
    rw [List.length_map,CfP.allV,risingP]; simp only [lim,List.length_nil] at *; lia
  · rintro k ρ H' ⟨rfl,_⟩; exact hr.2
  · exact ⟨rfl,0,0,none,rfl⟩
  · rintro n u ρ H' hu ⟨rfl,a,b,x,rfl⟩
    rw [List.getElem?_map] at hu
    obtain ⟨i,hi,rfl⟩:=Option.map_eq_some_iff.mp hu
    cases hg:vget E.votes i with
    | none=>exact WS.ite (PX.cmp (PX.loc rfl) (PX.attr (PX.loc rfl) ht1 rfl) (cmp_notin_votes s1.hv)) (fun _=>WS.cont ⟨rfl,a,b,some (.int i),rfl⟩) (fun h=>by rw [hg] at h; cases h)
    | some w =>
      refine WS.ite (PX.cmp (PX.loc rfl) (PX.attr (PX.loc rfl) ht1 rfl) (cmp_notin_votes s1.hv)) (fun h=>by rw [hg] at h; cases h) (fun _=>?_)
      refine WS.ite (PX.sub (PX.attr (PX.loc rfl) ht1 rfl) (PX.loc rfl) (sub_votes s1.hv hg)) (fun h=>?_) (fun h=>?_)
      · exact WS.augName rfl PX.const rfl (WS.nil ⟨rfl,a + 1,b,some (.int i),rfl⟩)
      · exact WS.augName rfl PX.const rfl (WS.nil ⟨rfl,a,b + 1,some (.int i),rfl⟩)
  · rintro ρ H' ⟨rfl,a,b,x,rfl⟩
    refine WS.ret (WX.tup (WXs.cons (WX.p (PX.loc rfl) (WXs.cons (WX.p (PX.loc rfl) (WXs.cons (WX.meth (PX.attr (PX.loc rfl) ht1 rfl) (x1.keep _ _ _ id hc1).2 rfl rfl (by tb_rel) (wf_vote s1.mem.c s1.hv (by have:=sm.conf; lia) (by have:=sm.conf; lia) (WXs.nil ?_)))))))))
    exact k G1 a b s1
theorem wf_draw (s:St j e B A G E) (k:∀ G',St j e B A G' { E with timeout:=2 + E.jit,draws:=E.draws + 1 }→Q .none G'.h):WF (mkL Fn (dp + 1)) 40 [.ref e] G.h Q:=by
  refine WF.go rfl rfl ?_
  have he:=s.he
  have hm:binV .Mod (.int E.draws) (.int 2) G.h=some (.int (E.draws % 2),G.h):=rfl
  have hj:∃ z,subV (.tup [.int E.nid,.int 0]) (.int (E.draws % 2)) G.h=some (.int z)∧z % 2=E.jit:=by
    unfold El.jit
    rcases (by lia:E.draws % 2=0∨E.draws % 2=1) with h | h
    · rw [h]; exact ⟨E.nid,rfl,rfl⟩
    · rw [h]; exact ⟨0,rfl,rfl⟩
  obtain ⟨z,hz,hz'⟩:=hj
  have hz2:binV .Mod (.int z) (.int 2) G.h=some (.int (z % 2),G.h):=rfl
  refine WS.asg (WX.p (PX.bin (PX.sub (by tb_rel) (PX.bin (by tb_rel) (PX.len (by tb_rel) rfl) hm) hz) (by tb_rel) hz2) ?_)
  rw [hz']
  refine WS.aug_draws s rfl fun G1 s1=>?_
  have he:=s1.he
  exact WS.set_timeout s1 rfl (by tb_rel) fun G2 s2=>WS.nil (k G2 s2)
theorem wf_pass {f:Nat} {fi:FI} {vs:List V} {H:Hp} (hf:(progFns++Fn)[f]?=some fi) (hl:vs.length=fi.npar) (hc:fi.code=[.pass]) (k:Q .none H):WF (mkL Fn (dp + 1)) f vs H Q:=by
  refine WF.go hf hl ?_
  rw [hc]
  exact WS.pass (WS.nil k)
theorem wf_reset (s:St j e B A G E) (t:Int) (k:∀ A' G',St j e B A' G' (E.reset t)→Q .none G'.h):WF (mkL Fn (dp + 2)) 41 [.ref e,.int t] G.h Q:=by
  refine WF.go rfl rfl ?_
  have he:=s.he
  have rest:∀ (E₁:El) (G₁:Gh),St j e B A G₁ E₁→{ E₁ with leader:=0,elapsed:=0,timeout:=2 + E₁.jit,draws:=E₁.draws + 1,votes:=[] }=E.reset t →
      WS (mkL Fn (dp + 1)) [.setattr (.loc 0) 41 (.const (.int 0)),.setattr (.loc 0) 22 (.const (.int 0)),.setattr (.loc 0) 30 (.const (.int 0)),.expr (.meth (.loc 0) 20 []),.expr (.meth (.attr (.loc 0) 86) 65 []),.expr (.meth (.loc 0) 26 [])]
        [some (.ref e),some (.int t)] G₁.h fun fl _ H'=>Q (outOf fl) H':=by
    intro E₁ G₁ s1 h
    refine WS.set_leader s1 rfl PX.const fun G2 s2=>WS.set_elapsed s2 rfl PX.const fun G3 s3=>WS.set_hb s3 rfl PX.const fun G4 s4=>?_
    refine WS.expr (WX.meth (PX.loc rfl) s4.he rfl rfl PXs.nil (wf_draw s4 fun G5 s5=>?_))
    refine WS.expr (WX.meth (PX.attr (PX.loc rfl) s5.he rfl) s5.ht rfl rfl PXs.nil (wf_reset_votes s5 fun A6 G6 s6=>?_))
    refine WS.expr (WX.meth (PX.loc rfl) s6.he rfl rfl PXs.nil (wf_pass rfl rfl rfl (WS.nil (k A6 G6 ?_))))
    rw [← h]; exact s6
  refine WS.ite (by tb_rel) (fun h=>?_) (fun h=>?_)
  · have h':¬ E.term=t:=by simpa using h
    refine WS.set_term s rfl (PX.loc rfl) fun G1 s1=>WS.set_vote s1 rfl PX.const fun G2 s2=>rest _ _ s2 ?_
    unfold El.reset; rw [if_neg h']; rfl
  · have h':E.term=t:=by simpa using h
    refine rest _ _ s ?_
    unfold El.reset; rw [if_pos h',← h']
theorem wf_become_follower (s:St j e B A G E) (t l:Int) (k:∀ A' G',St j e B A' G' (E.becomeFollower t l)→Q .none G'.h):WF (mkL Fn (dp + 3)) 42 [.ref e,.int t,.int l] G.h Q:=by
  refine WF.go rfl rfl ?_
  refine WS.expr (WX.meth (PX.loc rfl) s.he rfl rfl (by tb_rel) (wf_reset s t fun A1 G1 s1=>?_))
  exact WS.set_leader s1 rfl (PX.loc rfl) fun G2 s2=>WS.set_state s2 rfl PX.const fun G3 s3=>WS.nil (k _ _ s3)
theorem wf_become_candidate (s:St j e B A G E) (h2:E.state≠2) (k:∀ A' G',St j e B A' G' E.becomeCandidate→Q .none G'.h):WF (mkL Fn (dp + 3)) 43 [.ref e] G.h Q:=by
  refine WF.go rfl rfl ?_
  have he:=s.he
  refine WS.ite (by tb_rel) (fun h=>absurd (of_decide_eq_true h) h2) (fun _=>?_)
  refine WS.expr (WX.meth (PX.loc rfl) s.he rfl rfl (by tb_rel) (wf_reset s _ fun A1 G1 s1=>?_))
  have he:=s1.he
  exact WS.set_vote s1 rfl (by tb_rel) fun G2 s2=>WS.set_state s2 rfl PX.const fun G3 s3=>WS.nil (k _ _ s3)
theorem wf_become_pre (s:St j e B A G E) (h2:E.state≠2) (k:∀ A' G',St j e B A' G' E.becomePre→Q .none G'.h):WF (mkL Fn (dp + 2)) 44 [.ref e] G.h Q:=by
  refine WF.go rfl rfl ?_
  have he:=s.he
  refine WS.ite (by tb_rel) (fun h=>absurd (of_decide_eq_true h) h2) (fun _=>?_)
  refine WS.expr (WX.meth (PX.attr (PX.loc rfl) s.he rfl) s.ht rfl rfl PXs.nil (wf_reset_votes s fun A1 G1 s1=>?_))
  exact WS.set_leader s1 rfl PX.const fun G2 s2=>WS.set_state s2 rfl PX.const fun G3 s3=>WS.nil (k _ _ s3)
theorem wf_become_leader (s:St j e B A G E) (sm:E.conf.Small) (h0:E.state≠0) (hm:E.nid∈E.conf.members) (k:∀ A' G',St j e B A' G' E.becomeLeader→Q .none G'.h):WF (mkL Fn (dp + 3)) 45 [.ref e] G.h Q:=by
  refine WF.go rfl rfl ?_
  have he:=s.he
  have ht:=s.ht
  obtain ⟨a1,a2,a3,a4,hc1,hc2,hc3,hc4,hc5⟩:=s.mem.c
  refine WS.ite (by tb_rel) (fun h=>absurd (of_decide_eq_true h) h0) (fun _=>?_)
  refine WS.iteW (WX.cmp (WX.p (by tb_rel) (WX.meth (PX.attr (PX.attr (PX.loc rfl) he rfl) ht rfl) hc1.2 rfl rfl PXs.nil (wf_members s.mem.len s.mem.c sm.conf fun G1 r x1 hr=>?_))))
  refine ⟨_,cmp_notin_list hr.2,false,?_,fun h=>(by cases h),fun _=>?_⟩
  · exact congrArg some (by simp [hm])
  have s1:=s.grow x1
  have he:=s1.he
  refine WS.expr (WX.meth (PX.loc rfl) s1.he rfl rfl (by tb_rel) (wf_reset s1 _ fun A2 G2 s2=>?_))
  have he:=s2.he
  refine WS.set_leader s2 rfl (by tb_rel) fun G3 s3=>WS.set_state s3 rfl PX.const fun G4 s4=>?_
  exact WS.expr (WX.meth (PX.loc rfl) s4.he rfl rfl PXs.nil (wf_pass rfl rfl rfl (WS.nil (k _ _ s4))))
theorem wf_promotable (s:St j e B A G E) (sm:E.conf.Small) (k:∀ G',St j e B A G' E→Q (.bool E.promotable) G'.h):WF (mkL Fn (dp + 3)) 29 [.ref e] G.h Q:=by
  refine WF.go rfl rfl ?_
  have he:=s.he
  have ht:=s.ht
  obtain ⟨a1,a2,a3,a4,hc1,hc2,hc3,hc4,hc5⟩:=s.mem.c
  refine WS.ret (WX.cmp (WX.p (by tb_rel) (WX.meth (PX.attr (PX.attr (PX.loc rfl) he rfl) ht rfl) hc1.2 rfl rfl PXs.nil (wf_all_voters s.mem.len s.mem.c (by have:=sm.conf; lia) fun G1 r x1 hr=>?_))))
  exact ⟨_,cmp_in_list hr.2,k G1 (s.grow x1)⟩
end
end Mine
end
section
open PySem
namespace Mine
section
variable {T:TL} {ρ:En} {ss:List S} {Q:Fl→En→Hp→Prop} {i:Nat} {x:X} {H0 rest:Hp} {c f:Nat} {fs:List (Nat×V)} {ci:CI} {u:V}
theorem set_at_end (H0 rest:Hp) (o p:O):(H0++o::rest).set H0.length p=H0++p::rest:=by
  rw [List.set_append_right _ _ (Nat.le_refl _),Nat.sub_self,List.set_cons_zero]
theorem at_end (H0 rest:Hp) (o:O):(H0++o::rest)[H0.length]?=some o:=by
  rw [List.getElem?_append_right (Nat.le_refl _),Nat.sub_self]; rfl
theorem WS.setI (hc:T.cls[c]?=some ci) (hf:ci.fields.contains f=true) (hρ:ρ[i]?=some (some (.ref H0.length))) (p:PX ρ (H0++.inst c fs::rest) x u) (w:WS T ss ρ (H0++.inst c (fset f u fs)::rest) Q) :
    WS T (.setattr (.loc i) f x::ss) ρ (H0++.inst c fs::rest) Q :=
  WS.setattr (WX.p p ⟨H0.length,c,fs,ci,PX.loc hρ,at_end ..,hc,hf,by rw [set_at_end]; exact w⟩)
theorem WS.setIL (hc:T.cls[c]?=some ci) (hf:ci.fields.contains f=true) (hρ:ρ[i]?=some (some (.ref H0.length))) (w:WS T ss ρ (H0++.inst c (fset f (.ref (H0.length + 1 + rest.length)) fs)::(rest++[.list []])) Q) :
    WS T (.setattr (.loc i) f (.list [])::ss) ρ (H0++.inst c fs::rest) Q:=by
  refine WS.setattr (WX.list (WXs.nil ⟨H0.length,c,fs,ci,PX.loc hρ,?_,hc,hf,?_⟩))
  · rw [List.append_assoc]; exact at_end ..
  · rw [show (H0++O.inst c fs::rest++[O.list []])=H0++O.inst c fs::(rest++[O.list []]) by simp,set_at_end]
    rw [show (H0++O.inst c fs::rest).length=H0.length + 1 + rest.length by simp; lia]
    exact w
theorem fset_new {f:Nat} {u:V} {fs:List (Nat×V)} (h:(fs.map (·.1)).contains f=false):fset f u fs=fs++[(f,u)]:=by
  induction fs with
  | nil=>rfl
  | cons e es ih =>
    rw [List.map_cons,List.contains_cons,Bool.or_eq_false_iff] at h
    rw [fset_cons,if_neg,ih h.2]; rfl
    intro k
    rw [eq_of_beq k,beq_self_eq_true] at h
    exact nT h.1
theorem WS.setN (hc:T.cls[c]?=some ci) (hf:ci.fields.contains f=true) (hρ:ρ[i]?=some (some (.ref H0.length))) (p:PX ρ (H0++.inst c fs::rest) x u) (hn:(fs.map (·.1)).contains f=false) (w:WS T ss ρ (H0++.inst c (fs++[(f,u)])::rest) Q) :
    WS T (.setattr (.loc i) f x::ss) ρ (H0++.inst c fs::rest) Q :=
  WS.setI hc hf hρ p (by rw [fset_new hn]; exact w)
theorem WS.setNL (hc:T.cls[c]?=some ci) (hf:ci.fields.contains f=true) (hρ:ρ[i]?=some (some (.ref H0.length))) (hn:(fs.map (·.1)).contains f=false) (w:WS T ss ρ (H0++.inst c (fs++[(f,.ref (H0.length + 1 + rest.length))])::(rest++[.list []])) Q) :
    WS T (.setattr (.loc i) f (.list [])::ss) ρ (H0++.inst c fs::rest) Q :=
  WS.setIL hc hf hρ (by rw [fset_new hn]; exact w)
end
section
variable {Fn:List FI} {dp:Nat} {j e:Nat} {B G:Gh} {A:Adr} {E:El} {Q:V→Hp→Prop}
theorem wf_message {H:Hp} {k t f m:Int} (q:Q .none (H++[.inst 0 (mfs ⟨k,t,f,m,0,0,false,false⟩ (H.length + 1)),.list []])):WF (mkL Fn (dp + 1)) 3 [.ref H.length,.int k,.int t,.int f,.int m] (H++[.inst 0 []]) Q:=by
  refine WF.go rfl rfl ?_
  refine WS.setN rfl rfl rfl (PX.loc rfl) (by kernel_rfl) (WS.setN rfl rfl rfl (PX.loc rfl) (by kernel_rfl) (WS.setN rfl rfl rfl (PX.loc rfl) (by kernel_rfl) (WS.setN rfl rfl rfl (PX.loc rfl) (by kernel_rfl) ?_)))
  refine WS.setN rfl rfl rfl PX.const (by kernel_rfl) (WS.setN rfl rfl rfl PX.const (by kernel_rfl) (WS.setNL rfl rfl rfl (by kernel_rfl) ?_))
  refine WS.setN rfl rfl rfl PX.const (by kernel_rfl) (WS.setN rfl rfl rfl PX.const (by kernel_rfl) (WS.setN rfl rfl rfl PX.const (by kernel_rfl) (WS.setN rfl rfl rfl PX.const (by kernel_rfl) (WS.setN rfl rfl rfl PX.const (by kernel_rfl) (WS.nil q)))))
theorem wx_message {ρ:En} {H:Hp} {a b c d:X} {k t f m:Int} (ha:PX ρ H a (.int k)) (hb:PX ρ H b (.int t)) (hc:PX ρ H c (.int f)) (hd:PX ρ H d (.int m))
    (q:Q (.ref H.length) (H++[.inst 0 (mfs ⟨k,t,f,m,0,0,false,false⟩ (H.length + 1)),.list []])):WX (mkL Fn (dp + 1)) (.new 0 [a,b,c,d]) ρ H Q :=
  WX.new rfl (WXs.p (PXs.cons ha (PXs.cons hb (PXs.cons hc (PXs.cons hd PXs.nil)))) (wf_message ⟨rfl,q⟩))
noncomputable def Gh.msg (G:Gh) (m:Msg):Gh:=(G.new 0 (.inst 0 (mfs m (G.h.length + 1)))).new 0 (.list [])
theorem Gh.msg_h {G:Gh} {m:Msg}:(G.msg m).h=G.h++[.inst 0 (mfs m (G.h.length + 1)),.list []]:=by simp [Gh.msg,Gh.new]
theorem Gh.msg_ext {G:Gh} (h:G.t.length=G.h.length) (m:Msg) (S:Nat→Prop):Ext S G (G.msg m):=(Ext.new h 0 _).trans (Ext.new (Gh.new_len h) 0 _)
theorem Gh.msg_is {G:Gh} (h:G.t.length=G.h.length) (m:Msg):isMsg (G.msg m) G.h.length m:=⟨_,(At.fresh h 0 _).new⟩
theorem St.rebase {A':Adr} {G':Gh} {E':El} (s:St j e B A G E) (s':St j e G A' G' E'):St j e B A' G' E':=⟨s.j0,s'.mem,s.ext.trans s'.ext⟩
theorem St.self (s:St j e B A G E):St j e G A G E:=.start s.j0 s.mem
noncomputable def sentAs (E:El) (m:Msg):Msg:=if m.kind=5∨m.kind=6∨m.kind=17∨m.kind=18 then m else { m with term:=E.term }
theorem wf_send (s:St j e B A G E) (m:Msg) (hl:E.out.length < 1000) (hf:m.frm≠0) (hk:(m.kind=5∨m.kind=6∨m.kind=17∨m.kind=18)∧m.term≠0∨m.kind=4∧m.term=0)
    (k:∀ A' G',St j e B A' G' (E.send (sentAs E m))→Q .none G'.h):WF (mkL Fn (dp + 1)) 39 [.ref e,.ref G.h.length] (G.h++[.inst 0 (mfs m (G.h.length + 1)),.list []]) Q:=by
  have fin:∀ m':Msg,m'=sentAs E m→WS (mkL Fn dp) [.expr (.append (.attr (.loc 0) 51) (.loc 1))] [some (.ref e),some (.ref G.h.length)] (G.h++[.inst 0 (mfs m' (G.h.length + 1)),.list []]) fun fl _ H'=>Q (outOf fl) H':=by
    intro m' hm
    have s1:=s.grow (Gh.msg_ext s.mem.len m' _)
    rw [← Gh.msg_h]
    refine WS.expr (WX.append (PX.attr (PX.loc rfl) s1.he rfl) s1.hq (WX.p (PX.loc rfl) ⟨_,s1.hq,?_,WS.nil (k { A with qs:=A.qs++[G.h.length] } ((G.msg m').put A.q (O.list (A.qs.map V.ref++[V.ref G.h.length]))) ?_)⟩))
    · rw [List.length_map,s1.mem.m.length]; simp only [lim]; exact Nat.le_trans (by assumption) (by decide)
    · exact hm▸s1.sent (Gh.msg_is s.mem.len m')
  refine WF.go rfl rfl ?_
  have he:∀ m',(G.h++[.inst 0 (mfs m' (G.h.length + 1)),.list []])[e]?=some (.inst 4 (efs A E)):=fun m'=>by
    have:=(s.grow (Gh.msg_ext s.mem.len m' _)).he; rw [Gh.msg_h] at this; exact this
  have he':=he m
  have hm:(G.h++[.inst 0 (mfs m (G.h.length + 1)),.list []])[G.h.length]?=some (.inst 0 (mfs m (G.h.length + 1))):=at_end ..
  refine WS.ite (by tb_rel) (fun h=>absurd (of_decide_eq_true h) hf) (fun _=>?_)
  rcases hk with ⟨hk,ht⟩ | ⟨hk,ht⟩
  · refine WS.ite (by tb_rel) (fun _=>?_) (fun h=>by simp at h; (exfalso; lia))
    refine WS.ite (by tb_rel) (fun h=>absurd (of_decide_eq_true h) ht) (fun _=>?_)
    exact fin m (by rw [sentAs,if_pos hk])
  · refine WS.ite (by tb_rel) (fun h=>by simp [hk] at h) (fun _=>?_)
    refine WS.ite (by tb_rel) (fun h=>by simp [ht] at h) (fun _=>?_)
    refine WS.ite (by tb_rel) (fun _=>?_) (fun h=>by simp [hk] at h)
    refine WS.setI rfl rfl rfl (PX.attr (PX.loc rfl) he' rfl) ?_
    exact fin { m with term:=E.term } (by rw [sentAs,if_neg (by lia)])
theorem wf_poll (s:St j e B A G E) (sm:E.conf.Small) (hl:E.votes.length < 1000) (n kind:Int) (ok:Bool) (h1:kind=17→E.state=3) (h2:kind=5→E.state=1)
    (k:∀ G',St j e B A G' (E.record n ok)→Q (.int (E.record n ok).tally) G'.h):WF (mkL Fn (dp + 5)) 57 [.ref e,.int n,.int kind,.bool ok] G.h Q:=by
  refine WF.go rfl rfl ?_
  have he:=s.he
  refine WS.ite (by tb_rel) (fun h=>by simp at h; exact absurd (h1 h.1) h.2) (fun _=>?_)
  refine WS.ite (by tb_rel) (fun h=>by simp at h; exact absurd (h2 h.1) h.2) (fun _=>?_)
  refine WS.expr (WX.meth (PX.attr (PX.loc rfl) s.he rfl) s.ht rfl rfl (by tb_rel) (wf_record s hl n ok fun G1 s1=>?_))
  have sm1:(E.record n ok).conf.Small:=by unfold El.record; split<;>exact sm
  refine WS.ret (WX.sub (WX.meth (PX.attr (PX.loc rfl) s1.he rfl) s1.ht rfl rfl PXs.nil (wf_tally s1 sm1 fun G2 a b s2=>WX.p PX.const ⟨_,rfl,k G2 s2⟩)))
theorem reqs_snoc (E:El) (asked term:Int) (tr:Bool) (l:List Int) (n:Nat) (v:Int) (h:l[n]?=some v) :
    ((l.take (n + 1)).filter fun j=>decide (j≠E.nid)).map (fun j=>({ kind:=asked,to:=j,frm:=E.nid,term:=term,lt:=E.last.2,ix:=E.last.1,rej:=false,tr:=tr }:Msg)) =
    ((l.take n).filter fun j=>decide (j≠E.nid)).map (fun j=>({ kind:=asked,to:=j,frm:=E.nid,term:=term,lt:=E.last.2,ix:=E.last.1,rej:=false,tr:=tr }:Msg)) ++
      (if v=E.nid then [] else [{ kind:=asked,to:=v,frm:=E.nid,term:=term,lt:=E.last.2,ix:=E.last.1,rej:=false,tr:=tr }]):=by
  rw [List.take_add_one,h,Option.toList_some,List.filter_append,List.map_append]
  congr 1
  by_cases hv:v=E.nid<;>simp [hv]
theorem allV_len (C:CfP):C.allV.length≤C.voters.length + C.outgoing.length:=by
  have:=fold_rstep_len (isort (C.voters++C.outgoing)) []
  rw [isort_len,List.length_append,List.length_nil] at this
  rw [CfP.allV,risingP]; simp_all
theorem ws_asks (s:St j e B A G E) (sm:E.conf.Small) (hl:E.out.length + 100 < 1000) (hn:E.nid≠0) (kind asked term:Int) (ha:asked=5∨asked=17) (ht:term≠0)
    (k:∀ A' G',St j e B A' G' { E with out:=E.out++E.reqs asked term (decide (kind=3)) }→Q .none G'.h) (y1 y2 y3 y4:Option V) :
    WS (mkL Fn (dp + 2)) [.unpack [4,5] (.meth (.loc 0) 39 []),.forr 6 false [(.meth (.attr (.attr (.loc 0) 86) 17) 0 [])] [.ite (.cmp .Eq (.loc 6) (.attr (.loc 0) 52)) [.cont] [],.asg 7 (.new 0 [(.loc 2),(.loc 6),(.attr (.loc 0) 52),(.loc 3)]),.setattr (.loc 7) 34 (.loc 4),.setattr (.loc 7) 44 (.loc 5),.ite (.cmp .Eq (.loc 1) (.const (.int 3))) [.setattr (.loc 7) 18 (.const (.bytes [116,114,97,110,115,102,101,114]))] [],.expr (.meth (.loc 0) 67 [(.loc 7)])]]
      [some (.ref e),some (.int kind),some (.int asked),some (.int term),y1,y2,y3,y4] G.h fun fl _ H'=>Q (outOf fl) H':=by
  refine WS.unpack (WX.meth (PX.loc rfl) s.he rfl rfl PXs.nil (WF.go rfl rfl (WS.ret (WX.p (PX.attr (PX.loc rfl) s.he rfl) ⟨_,_,rfl,rfl,?_⟩))))
  obtain ⟨a1,a2,a3,a4,hc1,hc2,hc3,hc4,hc5⟩:=s.mem.c
  refine WS.forList (WX.meth (PX.attr (PX.attr (PX.loc rfl) s.he rfl) s.ht rfl) hc1.2 rfl rfl PXs.nil (wf_all_voters s.mem.len s.mem.c (by have:=sm.conf; lia) fun G1 r x1 hr=>?_))
  have s1:=s.grow x1
  have al:=allV_len E.conf
  have sl:=sm.conf
  refine ⟨r,_,rfl,hr.2,ForG.list (E.conf.allV.map .int) (fun n ρ H'=>∃ A' G',H'=G'.h∧St j e G1 A' G' { E with out:=E.out++(((E.conf.allV.take n).filter fun j=>decide (j≠E.nid)).map (fun j=>({ kind:=asked,to:=j,frm:=E.nid,term:=term,lt:=E.last.2,ix:=E.last.1,rej:=false,tr:=decide (kind=3) }:Msg))) } ∧
      ∃ x y,ρ=[some (.ref e),some (.int kind),some (.int asked),some (.int term),some (.int E.last.1),some (.int E.last.2),x,y]) ?_ ?_ ?_ ?_ ?_⟩
  · rw [List.length_map]; simp only [lim]; lia
  · rintro n ρ H' ⟨A',G',rfl,s',_⟩; exact (s'.at0 hr).2
  · exact ⟨A,G1,rfl,by simpa using s1.self,y3,y4,rfl⟩
  · rintro n u ρ H' hu ⟨A',G',rfl,s',x,y,rfl⟩
    rw [List.getElem?_map] at hu
    obtain ⟨v,hv,rfl⟩:=Option.map_eq_some_iff.mp hu
    have he:=s'.he
    have hsn:=reqs_snoc E asked term (decide (kind=3)) E.conf.allV n v hv
    refine WS.ite (by tb_rel) (fun h=>WS.cont ⟨A',G',rfl,?_,some (.int v),y,rfl⟩) (fun h=>?_)
    · rw [hsn,if_pos (of_decide_eq_true h),List.append_nil]; exact s'
    · refine WS.asg (wx_message (by tb_rel) (by tb_rel) (by tb_rel) (by tb_rel) ?_)
      refine WS.setI rfl rfl rfl (PX.loc rfl) (WS.setI rfl rfl rfl (PX.loc rfl) ?_)
      have hlen:(E.out++(((E.conf.allV.take n).filter fun j=>decide (j≠E.nid)).map (fun j=>({ kind:=asked,to:=j,frm:=E.nid,term:=term,lt:=E.last.2,ix:=E.last.1,rej:=false,tr:=decide (kind=3) }:Msg)))).length < 1000:=by
        rw [List.length_append,List.length_map]
        have:=List.length_filter_le (fun j=>decide (j≠E.nid)) (E.conf.allV.take n)
        rw [List.length_take] at this
        omega
      have fin:∀ tr,tr=decide (kind=3)→WS (mkL Fn (dp + 2)) [.expr (.meth (.loc 0) 67 [(.loc 7)])] [some (.ref e),some (.int kind),some (.int asked),some (.int term),some (.int E.last.1),some (.int E.last.2),some (.int v),some (.ref G'.h.length)]
          (G'.h++[.inst 0 (mfs ⟨asked,v,E.nid,term,E.last.2,E.last.1,false,tr⟩ (G'.h.length + 1)),.list []]) (fun fl ρ' H'=>match fl with
          | .next=>∃ A' G',H'=G'.h∧St j e G1 A' G' { E with out:=E.out++(((E.conf.allV.take (n + 1)).filter fun j=>decide (j≠E.nid)).map (fun j=>({ kind:=asked,to:=j,frm:=E.nid,term:=term,lt:=E.last.2,ix:=E.last.1,rej:=false,tr:=decide (kind=3) }:Msg))) } ∧
            ∃ x y,ρ'=[some (.ref e),some (.int kind),some (.int asked),some (.int term),some (.int E.last.1),some (.int E.last.2),x,y]
          | .cont=>∃ A' G',H'=G'.h∧St j e G1 A' G' { E with out:=E.out++(((E.conf.allV.take (n + 1)).filter fun j=>decide (j≠E.nid)).map (fun j=>({ kind:=asked,to:=j,frm:=E.nid,term:=term,lt:=E.last.2,ix:=E.last.1,rej:=false,tr:=decide (kind=3) }:Msg))) } ∧
            ∃ x y,ρ'=[some (.ref e),some (.int kind),some (.int asked),some (.int term),some (.int E.last.1),some (.int E.last.2),x,y]
          | .ret u=>Q (outOf (.ret u)) H'):=by
        intro tr htr
        subst htr
        have hee:=(s'.grow (Gh.msg_ext s'.mem.len ⟨asked,v,E.nid,term,E.last.2,E.last.1,false,decide (kind=3)⟩ _)).he
        rw [Gh.msg_h] at hee
        refine WS.expr (WX.meth (PX.loc rfl) hee rfl rfl (by tb_rel) (wf_send s' _ hlen hn (.inl ⟨by rcases ha with h | h<;>simp [h],ht⟩) fun A2 G2 s2=>WS.nil ⟨A2,G2,rfl,?_,some (.int v),_,rfl⟩))
        rw [hsn,if_neg (of_decide_eq_false h),← List.append_assoc]
        rw [sentAs,if_pos (by rcases ha with h | h<;>simp [h])] at s2
        exact s2
      refine WS.ite (by tb_rel) (fun h3=>?_) (fun h3=>?_)
      · exact WS.setI rfl rfl rfl PX.const (fin true (by rw [h3]))
      · exact fin false (by rw [h3])
  · rintro ρ H' ⟨A',G',rfl,s',x,y,rfl⟩
    refine WS.nil (k A' G' ?_)
    rw [List.length_map,List.take_length] at s'
    exact s1.rebase s'
end
end Mine
end
section
open PySem
namespace Mine
section
variable {Fn:List FI} {dp:Nat} {j e:Nat} {B G:Gh} {A:Adr} {E:El} {Q:V→Hp→Prop}
structure El.Fit (E:El):Prop where
  sm:E.conf.Small
  mem:E.nid∈E.conf.members
  nid0:E.nid≠0
  term:0 < E.term
  votes:E.votes.length < 900
  out:E.out.length < 800
theorem El.Fit.bf (f:E.Fit) {t l:Int} (ht:0 < t):(E.becomeFollower t l).Fit:=⟨f.sm,f.mem,f.nid0,ht,by simp [El.becomeFollower,El.reset],f.out⟩
theorem El.Fit.recd (f:E.Fit) {n:Int} {b:Bool}:(E.record n b).conf=E.conf∧(E.record n b).nid=E.nid∧(E.record n b).state=E.state∧(E.record n b).term=E.term∧(E.record n b).out=E.out∧(E.record n b).votes.length < 901:=by
  have:=f.votes
  unfold El.record
  split
  · exact ⟨rfl,rfl,rfl,rfl,rfl,by exact Nat.le_trans (by assumption) (by decide)⟩
  · exact ⟨rfl,rfl,rfl,rfl,rfl,by simp; exact Nat.lt_of_le_of_lt (by assumption) (by decide)⟩
theorem wf_wonE (s:St j e B A G E) (sm:E.conf.Small) (hm:E.nid∈E.conf.members) (h3:E.state≠3) (h0:E.state≠0) (k:∀ A' G',St j e B A' G' E.becomeLeader→Q .none G'.h):WF (mkL Fn (dp + 4)) 58 [.ref e] G.h Q:=by
  refine WF.go rfl rfl ?_
  have he:=s.he
  refine WS.ite (by tb_rel) (fun h=>absurd (of_decide_eq_true h) h3) (fun _=>?_)
  refine WS.expr (WX.meth (PX.loc rfl) s.he rfl rfl PXs.nil (wf_become_leader s sm h0 hm fun A1 G1 s1=>?_))
  exact WS.expr (WX.meth (PX.loc rfl) s1.he rfl rfl PXs.nil (wf_pass rfl rfl rfl (WS.nil (k _ _ s1))))
theorem wf_campaignE (s:St j e B A G E) (sm:E.conf.Small) (hm:E.nid∈E.conf.members) (hn:E.nid≠0) (ht:0 < E.term) (ho:E.out.length < 800) (h2:E.state≠2) (kind:Int) (hk:kind≠1)
    (k:∀ A' G',St j e B A' G' (E.campaignE kind)→Q .none G'.h):WF (mkL Fn (dp + 6)) 56 [.ref e,.int kind] G.h Q:=by
  refine WF.go rfl rfl ?_
  refine WS.ite (by tb_rel) (fun h=>absurd (of_decide_eq_true h) hk) (fun _=>?_)
  refine WS.expr (WX.meth (PX.loc rfl) s.he rfl rfl PXs.nil (wf_become_candidate s h2 fun A1 G1 s1=>?_))
  have he1:=s1.he
  refine WS.asg (WX.p PX.const (WS.asg (WX.p (by tb_rel) ?_)))
  refine WS.iteW (WX.cmp (WX.meth (PX.loc rfl) he1 rfl rfl (by tb_rel) (wf_poll s1 sm (by show (0:Nat) < 1000; simp) _ _ _ (fun h=>by cases h) (fun _=>rfl) fun G2 s2=>WX.p PX.const ⟨_,cmp_eq,_,rfl,fun h=>?_,fun h=>?_⟩)))
  · refine WS.expr (WX.meth (PX.loc rfl) s2.he rfl rfl PXs.nil (wf_wonE s2 sm hm (by show (1:Int)≠3; decide) (by show (1:Int)≠0; decide) fun A3 G3 s3=>WS.ret (WX.p PX.const (k A3 G3 ?_))))
    unfold El.campaignE
    dsimp only
    rw [if_pos (of_decide_eq_true h)]
    exact s3
  · refine ws_asks s2 sm (by show E.out.length + 100 < 1000; lia) hn kind _ _ (.inl rfl) (by show E.term + 1≠0; lia) (fun A3 G3 s3=>k A3 G3 ?_) _ _ _ _
    unfold El.campaignE
    dsimp only
    rw [if_neg (of_decide_eq_false h)]
    exact s3
theorem wf_won (s:St j e B A G E) (sm:E.conf.Small) (hm:E.nid∈E.conf.members) (hn:E.nid≠0) (ht:0 < E.term) (ho:E.out.length < 800) (h0:E.state≠0) (k:∀ A' G',St j e B A' G' E.won→Q .none G'.h):WF (mkL Fn (dp + 7)) 58 [.ref e] G.h Q:=by
  by_cases h3:E.state=3
  · refine WF.go rfl rfl ?_
    have he:=s.he
    refine WS.ite (by tb_rel) (fun _=>?_) (fun h=>absurd h3 (of_decide_eq_false h))
    refine WS.expr (WX.meth (PX.loc rfl) s.he rfl rfl (by tb_rel) (wf_campaignE s sm hm hn ht ho (by lia) 2 (by decide) fun A1 G1 s1=>WS.ret (WX.p PX.const (k A1 G1 ?_))))
    unfold El.won; rw [if_pos h3]; exact s1
  · refine wf_wonE s sm hm h3 h0 fun A1 G1 s1=>k A1 G1 ?_
    unfold El.won; rw [if_neg h3]; exact s1
theorem wf_campaign (s:St j e B A G E) (sm:E.conf.Small) (hm:E.nid∈E.conf.members) (hn:E.nid≠0) (ht:0 < E.term) (ho:E.out.length < 800) (h2:E.state≠2) (kind:Int)
    (k:∀ A' G',St j e B A' G' (E.campaign kind)→Q .none G'.h):WF (mkL Fn (dp + 8)) 56 [.ref e,.int kind] G.h Q:=by
  by_cases hk:kind=1
  · refine WF.go rfl rfl ?_
    refine WS.ite (by tb_rel) (fun _=>?_) (fun h=>absurd hk (of_decide_eq_false h))
    refine WS.expr (WX.meth (PX.loc rfl) s.he rfl rfl PXs.nil (wf_become_pre s h2 fun A1 G1 s1=>?_))
    have he1:=s1.he
    refine WS.asg (WX.p PX.const (WS.asg (WX.p (by tb_rel) ?_)))
    refine WS.iteW (WX.cmp (WX.meth (PX.loc rfl) he1 rfl rfl (by tb_rel) (wf_poll s1 sm (by show (0:Nat) < 1000; lia) _ _ _ (fun _=>rfl) (fun h=>by cases h) fun G2 s2=>WX.p PX.const ⟨_,cmp_eq,_,rfl,fun h=>?_,fun h=>?_⟩)))
    · refine WS.expr (WX.meth (PX.loc rfl) s2.he rfl rfl PXs.nil (wf_won s2 sm hm hn ht ho (by show (3:Int)≠0; decide) fun A3 G3 s3=>WS.ret (WX.p PX.const (k A3 G3 ?_))))
      unfold El.campaign El.campaignP
      rw [if_pos hk]
      dsimp only
      rw [if_pos (of_decide_eq_true h)]
      exact s3
    · refine ws_asks s2 sm (by show E.out.length + 100 < 1000; lia) hn kind _ _ (.inr rfl) (by show E.term + 1≠0; lia) (fun A3 G3 s3=>k A3 G3 ?_) _ _ _ _
      unfold El.campaign El.campaignP
      rw [if_pos hk]
      dsimp only
      rw [if_neg (of_decide_eq_false h)]
      subst hk
      exact s3
  · refine wf_campaignE s sm hm hn ht ho h2 kind hk fun A1 G1 s1=>k A1 G1 ?_
    unfold El.campaign; rw [if_neg hk]; exact s1
theorem wf_hup (s:St j e B A G E) (f:E.Fit) (kind:Int) (k:∀ A' G',St j e B A' G' (E.hup kind)→Q .none G'.h):WF (mkL Fn (dp + 9)) 55 [.ref e,.int kind] G.h Q:=by
  refine WF.go rfl rfl ?_
  have he:=s.he
  by_cases h2:E.state=2
  · refine WS.iteW (WX.bop (WX.p (by tb_rel) ⟨_,rfl,fun h=>absurd h2 (of_decide_eq_false h),fun _=>⟨_,rfl,fun _=>WS.ret (WX.p PX.const (k A G ?_)),fun h=>absurd h2 (of_decide_eq_false h)⟩⟩))
    unfold El.hup; rw [if_pos (.inl h2)]; exact s
  · refine WS.iteW (WX.bop (WX.p (by tb_rel) ⟨_,rfl,fun _=>WX.bop1 (WX.not (WX.meth (PX.loc rfl) he rfl rfl PXs.nil (wf_promotable s f.sm fun G1 s1=>⟨_,rfl,_,rfl,fun h=>?_,fun h=>?_⟩))),fun h=>absurd (of_decide_eq_true h) h2⟩))
    · refine WS.ret (WX.p PX.const (k A G1 ?_))
      unfold El.hup; rw [if_pos (.inr (by simpa using h))]; exact s1
    · refine WS.iteW (WX.meth (PX.loc rfl) s1.he rfl rfl PXs.nil (WF.go rfl rfl (WS.ret (WX.p PX.const ⟨false,rfl,fun h=>(by cases h),fun _=>?_⟩))))
      refine WS.expr (WX.meth (PX.loc rfl) s1.he rfl rfl (by tb_rel) (wf_campaign s1 f.sm f.mem f.nid0 f.term f.out h2 kind fun A2 G2 s2=>WS.nil (k A2 G2 ?_)))
      unfold El.hup; rw [if_neg (by simp at h; simp [h2,h])]; exact s2
theorem wf_in_lease (s:St j e B A G E) (k:Q (.bool E.inLease) G.h):WF (mkL Fn (dp + 1)) 50 [.ref e] G.h Q:=by
  refine WF.go rfl rfl ?_
  have he:=s.he
  refine WS.ite (by tb_rel) (fun h=>WS.ret (WX.p PX.const ?_)) (fun h=>WS.ret (WX.p (by tb_rel) ?_))
  · have:E.inLease=false:=by unfold El.inLease; simp at h ⊢; grind
    rw [this] at k; exact k
  · have:E.inLease=decide (E.elapsed < 2):=by unfold El.inLease; simp at h ⊢; simp [h]
    rw [this] at k; exact k
theorem wf_can_vote {r:Nat} {m:Msg} (s:St j e B A G E) (hm:isMsg G r m) (k:Q (.bool (E.canVote m)) G.h):WF (mkL Fn (dp + 1)) 53 [.ref e,.ref r] G.h Q:=by
  refine WF.go rfl rfl ?_
  have he:=s.he
  obtain ⟨er,ha⟩:=hm
  have hr:=ha.2
  refine WS.ite (by tb_rel) (fun h=>WS.ret (WX.p PX.const ?_)) (fun h=>?_)
  · have:E.canVote m=true:=by unfold El.canVote; simp at h; simp [h]
    rw [this] at k; exact k
  · refine WS.ite (by tb_rel) (fun g=>WS.ret (WX.p PX.const ?_)) (fun g=>WS.ret (WX.p (by tb_rel) ?_))
    · have:E.canVote m=true:=by unfold El.canVote; simp at g; simp [g]
      rw [this] at k; exact k
    · have:E.canVote m=(decide (m.kind=17) && decide (E.term < m.term)):=by unfold El.canVote; rw [h,g]; rfl
      rw [this] at k; exact k
theorem wf_up_to_date (s:St j e B A G E) (ix lt:Int) (k:Q (.bool (E.upToDate ix lt)) G.h):WF (mkL Fn (dp + 2)) 28 [.ref e,.int ix,.int lt] G.h Q:=by
  refine WF.go rfl rfl ?_
  refine WS.unpack (WX.meth (PX.loc rfl) s.he rfl rfl PXs.nil (WF.go rfl rfl (WS.ret (WX.p (PX.attr (PX.loc rfl) s.he rfl) ⟨_,_,rfl,rfl,?_⟩))))
  exact WS.ret (WX.p (by tb_rel) k)
theorem wf_answer_vote {r:Nat} {m:Msg} (s:St j e B A G E) (f:E.Fit) (hm:isMsg B r m) (hk:m.kind=5∨m.kind=17) (ht:m.term≠0)
    (k:∀ A' G',St j e B A' G' (E.answerVote m)→Q .none G'.h):WF (mkL Fn (dp + 3)) 54 [.ref e,.ref r] G.h Q:=by
  refine WF.go rfl rfl ?_
  have he:=s.he
  have hmG:=s.msg hm
  obtain ⟨er,ha⟩:=id hmG
  have hr:=ha.2
  have fo:=f.out
  have ftm:=f.term
  have hresp:∀ Q:V→Hp→Prop,Q (.int (m.kind + 1)) G.h→WF (mkL Fn (dp + 2)) 1 [.int m.kind] G.h Q:=by
    intro Q q
    refine WF.go rfl rfl ?_
    rcases hk with h | h
    · refine WS.ite (by tb_rel) (fun _=>WS.ret (WX.p PX.const ?_)) (fun g=>absurd h (of_decide_eq_false g))
      rw [h] at q; exact q
    · refine WS.ite (by tb_rel) (fun g=>by simp [h] at g) (fun _=>?_)
      refine WS.ite (by tb_rel) (fun _=>WS.ret (WX.p PX.const ?_)) (fun g=>absurd h (of_decide_eq_false g))
      rw [h] at q; exact q
  have hk':(m.kind + 1=5∨m.kind + 1=6∨m.kind + 1=17∨m.kind + 1=18):=by lia
  refine WS.asg (WX.call (WXs.p (by tb_rel) (hresp _ ?_)))
  have no:(E.canVote m && E.upToDate m.ix m.lt)=false→WS (mkL Fn (dp + 2)) [.asg 3 (.new 0 [(.loc 2),(.attr (.loc 1) 27),(.attr (.loc 0) 52),(.attr (.loc 0) 80)]),.setattr (.loc 3) 62 (.const (.bool true)),.expr (.meth (.loc 0) 67 [(.loc 3)])]
      [some (.ref e),some (.ref r),some (.int (m.kind + 1)),none] G.h fun fl _ H'=>Q (outOf fl) H':=by
    intro hno
    refine WS.asg (wx_message (by tb_rel) (by tb_rel) (by tb_rel) (by tb_rel) (WS.setI rfl rfl rfl PX.const ?_))
    have hee:=(s.grow (Gh.msg_ext s.mem.len ⟨m.kind + 1,m.frm,E.nid,E.term,0,0,true,false⟩ _)).he
    rw [Gh.msg_h] at hee
    refine WS.expr (WX.meth (PX.loc rfl) hee rfl rfl (by tb_rel) (wf_send s ⟨m.kind + 1,m.frm,E.nid,E.term,0,0,true,false⟩ (by exact Nat.le_trans (by assumption) (by decide)) f.nid0 (.inl ⟨hk',by show E.term≠0; exact Int.ne_of_gt (by assumption)⟩) fun A2 G2 s2=>WS.nil (k A2 G2 ?_)))
    rw [sentAs,if_pos hk'] at s2
    unfold El.answerVote; rw [if_neg (by rw [hno]; decide)]; exact s2
  refine WS.iteW (WX.bop (WX.meth (PX.loc rfl) he rfl rfl (by tb_rel) (wf_can_vote s hmG ⟨_,rfl,fun h1=>?_,fun h1=>⟨false,by rw [h1]; rfl,fun h=>(by cases h),fun _=>?_⟩⟩)))
  · refine WX.bop1 (WX.meth (PX.loc rfl) he rfl rfl (by tb_rel) (wf_up_to_date s _ _ ⟨_,rfl,fun h2=>?_,fun h2=>?_⟩))
    · refine WS.expr (WX.methW (PX.loc rfl) he rfl rfl (WXs.cons (wx_message (by tb_rel) (by tb_rel) (by tb_rel) (by tb_rel) (WXs.nil ?_))))
      refine wf_send s _ (by lia) f.nid0 (.inl ⟨hk',ht⟩) fun A2 G2 s2=>?_
      rw [sentAs,if_pos hk'] at s2
      obtain ⟨er2,ha2⟩:=s2.msg hm
      have hr2:=ha2.2
      have hyes:(E.canVote m && E.upToDate m.ix m.lt)=true:=by rw [h1,h2]; rfl
      refine WS.ite (by tb_rel) (fun h5=>?_) (fun h5=>?_)
      · refine WS.set_elapsed s2 rfl PX.const fun G3 s3=>?_
        obtain ⟨er3,ha3⟩:=s3.msg hm
        have hr3:=ha3.2
        refine WS.set_vote s3 rfl (by tb_rel) fun G4 s4=>WS.ret (WX.p PX.const (k A2 G4 ?_))
        unfold El.answerVote; rw [if_pos hyes,if_pos (of_decide_eq_true h5)]; exact s4
      · refine WS.ret (WX.p PX.const (k A2 G2 ?_))
        unfold El.answerVote; rw [if_pos hyes,if_neg (of_decide_eq_false h5)]; exact s2
    · exact no (by rw [h1,h2]; rfl)
  · exact no (by rw [h1]; rfl)
theorem wf_answer_lower {r:Nat} {m:Msg} (s:St j e B A G E) (f:E.Fit) (hm:isMsg B r m) (k:∀ A' G',St j e B A' G' (E.answerLower m)→Q .none G'.h):WF (mkL Fn (dp + 2)) 52 [.ref e,.ref r] G.h Q:=by
  refine WF.go rfl rfl ?_
  have he:=s.he
  have hmG:=s.msg hm
  obtain ⟨er,ha⟩:=id hmG
  have hr:=ha.2
  have fo:=f.out
  have ftm:=f.term
  refine WS.asg (WX.p (by tb_rel) ?_)
  refine WS.ite (by tb_rel) (fun h=>?_) (fun h=>?_)
  · refine WS.expr (WX.methW (PX.loc rfl) he rfl rfl (WXs.cons (wx_message (by tb_rel) (by tb_rel) (by tb_rel) (by tb_rel) (WXs.nil ?_))))
    refine wf_send s _ (by lia) f.nid0 (.inr ⟨rfl,rfl⟩) fun A2 G2 s2=>WS.nil (k A2 G2 ?_)
    unfold El.answerLower; rw [if_pos (by simpa using h)]; exact s2
  · refine WS.ite (by tb_rel) (fun g=>?_) (fun g=>?_)
    · refine WS.asg (wx_message (by tb_rel) (by tb_rel) (by tb_rel) (by tb_rel) (WS.setI rfl rfl rfl PX.const ?_))
      have hee:=(s.grow (Gh.msg_ext s.mem.len ⟨18,m.frm,E.nid,E.term,0,0,true,false⟩ _)).he
      rw [Gh.msg_h] at hee
      refine WS.expr (WX.meth (PX.loc rfl) hee rfl rfl (by tb_rel) (wf_send s ⟨18,m.frm,E.nid,E.term,0,0,true,false⟩ (by lia) f.nid0 (.inl ⟨.inr (.inr (.inr rfl)),by show E.term≠0; lia⟩) fun A2 G2 s2=>WS.nil (k A2 G2 ?_)))
      unfold El.answerLower; rw [if_neg (by simpa using h),if_pos (of_decide_eq_true g)]; exact s2
    · refine WS.nil (k A G ?_)
      unfold El.answerLower; rw [if_neg (by simpa using h),if_neg (of_decide_eq_false g)]; exact s
end
end Mine
end
section
open PySem
namespace Mine
section
variable {Fn:List FI} {dp:Nat} {j e:Nat} {B G:Gh} {A:Adr} {E:El} {Q:V→Hp→Prop}
theorem wf_may_lack {k:Int} {H:Hp} (q:Q (.bool (El.mayLack k)) H):WF (mkL Fn (dp + 2)) 22 [.int k] H Q:=by
  refine WF.go rfl rfl ?_
  refine WS.iteW (WX.call (WXs.p (by tb_rel) (WF.go rfl rfl (WS.ret (WX.p (by tb_rel) ⟨_,rfl,fun h=>WS.ret (WX.p PX.const ?_),fun h=>WS.ret (WX.p (by tb_rel) ?_)⟩)))))
  · have:El.mayLack k=true:=by unfold El.mayLack; simp at h ⊢; lia
    rw [this] at q; exact q
  · have:El.mayLack k=(decide (k=2) || (decide (k=15) || decide (k=13))):=by unfold El.mayLack; simp at h ⊢; simp [h,Bool.or_assoc]
    rw [this] at q; exact q
theorem bytes_tr {b:Bool}:((if b=true then TRB else []) == ([116,114,97,110,115,102,101,114]:List UInt8))=b:=by cases b<;>decide
theorem wf_settle_higher {r:Nat} {m:Msg} (s:St j e B A G E) (hm:isMsg B r m) (k:∀ A' G',St j e B A' G' (E.settleHigher m).1→Q (.bool (E.settleHigher m).2) G'.h):WF (mkL Fn (dp + 4)) 51 [.ref e,.ref r] G.h Q:=by
  refine WF.go rfl rfl ?_
  have he:=s.he
  have hmG:=s.msg hm
  obtain ⟨er,ha⟩:=id hmG
  have hr:=ha.2
  have rest:¬ ((m.kind=5∨m.kind=17)∧m.tr=false∧E.inLease=true) →
      WS (mkL Fn (dp + 3)) [.ite (.cmp .Eq (.attr (.loc 1) 37) (.const (.int 17))) [.ret (.const (.bool true))] [],.ite (.bop true [(.cmp .Eq (.attr (.loc 1) 37) (.const (.int 18))),(.not (.attr (.loc 1) 62))]) [.ret (.const (.bool true))] [],.ite (.bop false [(.cmp .Eq (.attr (.loc 1) 37) (.const (.int 3))),(.cmp .Eq (.attr (.loc 1) 37) (.const (.int 8))),(.cmp .Eq (.attr (.loc 1) 37) (.const (.int 7)))]) [.expr (.meth (.loc 0) 8 [(.attr (.loc 1) 80),(.attr (.loc 1) 27)])] [.expr (.meth (.loc 0) 8 [(.attr (.loc 1) 80),(.const (.int 0))])],.ret (.const (.bool true))]
        [some (.ref e),some (.ref r)] G.h fun fl _ H'=>Q (outOf fl) H':=by
    intro hno
    unfold El.settleHigher at k
    rw [if_neg hno] at k
    refine WS.ite (by tb_rel) (fun h=>WS.ret (WX.p PX.const ?_)) (fun h=>?_)
    · rw [if_pos (of_decide_eq_true h)] at k; exact k A G s
    · rw [if_neg (of_decide_eq_false h)] at k
      refine WS.ite (by tb_rel) (fun g=>WS.ret (WX.p PX.const ?_)) (fun g=>?_)
      · rw [if_pos (by simpa using g)] at k; exact k A G s
      · rw [if_neg (by simpa using g)] at k
        refine WS.ite (by tb_rel) (fun q=>?_) (fun q=>?_)
        · refine WS.expr (WX.meth (PX.loc rfl) he rfl rfl (by tb_rel) (wf_become_follower s _ _ fun A1 G1 s1=>WS.ret (WX.p PX.const ?_)))
          rw [if_pos (by unfold El.fromLead; simpa [or_assoc] using q)] at k; exact k A1 G1 s1
        · refine WS.expr (WX.meth (PX.loc rfl) he rfl rfl (by tb_rel) (wf_become_follower s _ _ fun A1 G1 s1=>WS.ret (WX.p PX.const ?_)))
          rw [if_neg (by unfold El.fromLead; simpa [or_assoc,and_assoc] using q)] at k; exact k A1 G1 s1
  refine WS.ite (by tb_rel) (fun h=>?_) (fun h=>?_)
  · refine WS.iteW (WX.bop (WX.p (PX.cmp (PX.attr (PX.loc rfl) hr rfl) PX.const cmp_bytes_ne) ⟨_,rfl,fun g=>WX.bop1 (WX.meth (PX.loc rfl) he rfl rfl PXs.nil (wf_in_lease s ⟨_,rfl,fun l=>?_,fun l=>?_⟩)),fun g=>⟨false,by rw [g]; rfl,fun l=>(by cases l),fun _=>?_⟩⟩))
    · refine WS.ret (WX.p PX.const ?_)
      unfold El.settleHigher at k
      rw [if_pos ⟨by simpa using h,by rw [bytes_tr] at g; simpa using g,l⟩] at k
      exact k A G s
    · exact rest fun ⟨_,_,l'⟩=>by rw [l] at l'; cases l'
    · exact rest fun ⟨_,l',_⟩=>by rw [bytes_tr,l'] at g; cases g
  · exact rest fun ⟨l,_⟩=>by simp at h; lia
theorem wf_settle {r:Nat} {m:Msg} (s:St j e B A G E) (f:E.Fit) (hm:isMsg B r m) (k:∀ A' G',St j e B A' G' (E.settle m).1→Q (.bool (E.settle m).2) G'.h):WF (mkL Fn (dp + 5)) 49 [.ref e,.ref r] G.h Q:=by
  refine WF.go rfl rfl ?_
  have he:=s.he
  have hmG:=s.msg hm
  obtain ⟨er,ha⟩:=id hmG
  have hr:=ha.2
  unfold El.settle at k
  refine WS.ite (by tb_rel) (fun h=>?_) (fun h=>?_)
  · rw [if_pos (of_decide_eq_true h)] at k
    exact WS.ret (WX.call (WXs.p (by tb_rel) (wf_may_lack (k A G s))))
  · rw [if_neg (of_decide_eq_false h)] at k
    refine WS.ite (by tb_rel) (fun g=>?_) (fun g=>?_)
    · rw [if_pos (of_decide_eq_true g)] at k
      exact WS.ret (WX.meth (PX.loc rfl) he rfl rfl (by tb_rel) (wf_settle_higher s hm k))
    · rw [if_neg (of_decide_eq_false g)] at k
      refine WS.ite (by tb_rel) (fun l=>?_) (fun l=>?_)
      · rw [if_pos (of_decide_eq_true l)] at k
        exact WS.expr (WX.meth (PX.loc rfl) he rfl rfl (by tb_rel) (wf_answer_lower s f hm fun A1 G1 s1=>WS.ret (WX.p PX.const (k A1 G1 s1))))
      · rw [if_neg (of_decide_eq_false l)] at k
        exact WS.ret (WX.p PX.const (k A G s))
theorem wf_step_follower {r:Nat} {m:Msg} (s:St j e B A G E) (f:E.Fit) (hm:isMsg B r m) (k:∀ A' G',St j e B A' G' (E.stepFollower m)→Q .none G'.h):WF (mkL Fn (dp + 10)) 37 [.ref e,.ref r] G.h Q:=by
  refine WF.go rfl rfl ?_
  have he:=s.he
  have hmG:=s.msg hm
  obtain ⟨er,ha⟩:=id hmG
  have hr:=ha.2
  unfold El.stepFollower at k
  refine WS.ite (by tb_rel) (fun h=>?_) (fun h=>?_)
  · rw [if_pos (by unfold El.fromLead; simpa [or_assoc] using h)] at k
    refine WS.set_elapsed s rfl PX.const fun G1 s1=>?_
    obtain ⟨er,ha⟩:=s1.msg hm
    have hr:=ha.2
    exact WS.set_leader s1 rfl (by tb_rel) fun G2 s2=>WS.nil (k A G2 s2)
  · rw [if_neg (by unfold El.fromLead; simpa [or_assoc,and_assoc] using h)] at k
    refine WS.ite (by tb_rel) (fun g=>?_) (fun g=>?_)
    · rw [if_pos (of_decide_eq_true g)] at k
      exact WS.expr (WX.meth (PX.loc rfl) he rfl rfl (by tb_rel) (wf_hup s f 3 fun A1 G1 s1=>WS.nil (k A1 G1 s1)))
    · rw [if_neg (of_decide_eq_false g)] at k
      exact WS.nil (k A G s)
theorem wf_step_candidate {r:Nat} {m:Msg} (s:St j e B A G E) (f:E.Fit) (hm:isMsg B r m) (hk2:m.kind≠2) (h1:E.state=1∨E.state=3) (k:∀ A' G',St j e B A' G' (E.stepCandidate m)→Q .none G'.h):WF (mkL Fn (dp + 8)) 59 [.ref e,.ref r] G.h Q:=by
  refine WF.go rfl rfl ?_
  have he:=s.he
  have hmG:=s.msg hm
  obtain ⟨er,ha⟩:=id hmG
  have hr:=ha.2
  have fv:=f.votes
  have after:∀ G1,St j e B A G1 (E.record m.frm (!m.rej))→(∀ A' G',St j e B A' G' (E.polled m)→Q .none G'.h)→WS (mkL Fn (dp + 7)) [.ite (.cmp .Eq (.loc 2) (.const (.int 3))) [.expr (.meth (.loc 0) 92 [])] [.ite (.cmp .Eq (.loc 2) (.const (.int 2))) [.expr (.meth (.loc 0) 8 [(.attr (.loc 0) 80),(.const (.int 0))])] []]]
      [some (.ref e),some (.ref r),some (.int (E.record m.frm (!m.rej)).tally)] G1.h fun fl _ H'=>Q (outOf fl) H':=by
    intro G1 s1 k
    have he1:=s1.he
    obtain ⟨r1,r2,r3,r4,r5,r6⟩:=f.recd (n:=m.frm) (b:=!m.rej)
    unfold El.polled at k
    dsimp only at k
    refine WS.ite (by tb_rel) (fun h=>?_) (fun h=>?_)
    · rw [if_pos (of_decide_eq_true h)] at k
      exact WS.expr (WX.meth (PX.loc rfl) he1 rfl rfl PXs.nil (wf_won s1 (by rw [r1]; exact f.sm) (by rw [r1,r2]; exact f.mem) (by rw [r2]; exact f.nid0) (by rw [r4]; exact f.term) (by rw [r5]; exact f.out) (by rw [r3]; lia) fun A2 G2 s2=>WS.nil (k A2 G2 s2)))
    · rw [if_neg (of_decide_eq_false h)] at k
      refine WS.ite (by tb_rel) (fun g=>?_) (fun g=>?_)
      · rw [if_pos (of_decide_eq_true g)] at k
        exact WS.expr (WX.meth (PX.loc rfl) he1 rfl rfl (by tb_rel) (wf_become_follower s1 _ _ fun A2 G2 s2=>WS.nil (k A2 G2 s2)))
      · rw [if_neg (of_decide_eq_false g)] at k
        exact WS.nil (k A G1 s1)
  unfold El.stepCandidate at k
  refine WS.ite (by tb_rel) (fun h=>absurd (of_decide_eq_true h) hk2) (fun _=>?_)
  refine WS.ite (by tb_rel) (fun h=>?_) (fun h=>?_)
  · rw [if_pos (by unfold El.fromLead; simpa [or_assoc] using h)] at k
    refine WS.expr (WX.meth (PX.loc rfl) he rfl rfl (by tb_rel) (wf_become_follower s _ _ fun A1 G1 s1=>?_))
    exact WS.expr (WX.meth (PX.loc rfl) s1.he rfl rfl (by tb_rel) (wf_pass rfl rfl rfl (WS.ret (WX.p PX.const (k A1 G1 s1)))))
  · rw [if_neg (by unfold El.fromLead; simpa [or_assoc,and_assoc] using h)] at k
    refine WS.ite (by tb_rel) (fun h3=>?_) (fun h3=>?_)
    · rw [if_pos (of_decide_eq_true h3)] at k
      refine WS.ite (by tb_rel) (fun g=>WS.ret (WX.p PX.const ?_)) (fun g=>?_)
      · rw [if_neg (by simpa using g)] at k; exact k A G s
      · rw [if_pos (by simpa using g)] at k
        exact WS.asg (WX.meth (PX.loc rfl) he rfl rfl (by tb_rel) (wf_poll s f.sm (by exact Nat.le_trans (by assumption) (by decide)) _ _ _ (fun _=>of_decide_eq_true h3) (fun h=>by cases h) fun G1 s1=>after G1 s1 k))
    · rw [if_neg (of_decide_eq_false h3)] at k
      refine WS.ite (by tb_rel) (fun g=>WS.ret (WX.p PX.const ?_)) (fun g=>?_)
      · rw [if_neg (by simpa using g)] at k; exact k A G s
      · rw [if_pos (by simpa using g)] at k
        exact WS.asg (WX.meth (PX.loc rfl) he rfl rfl (by tb_rel) (wf_poll s f.sm (by lia) _ _ _ (fun h=>by cases h) (fun _=>by have:=of_decide_eq_false h3; lia) fun G1 s1=>after G1 s1 k))
structure Msg.Fit (m:Msg):Prop where
  kind:m.kind=0∨m.kind=3∨m.kind=4∨m.kind=5∨m.kind=6∨m.kind=8∨m.kind=14∨m.kind=17∨m.kind=18
  term:0≤m.term
theorem El.Fit.low (f:E.Fit) (m:Msg):(E.settle m).2=true→(E.settle m).1=E∨(E.settle m).1=E.becomeFollower m.term m.frm∧E.term < m.term∨(E.settle m).1=E.becomeFollower m.term 0∧E.term < m.term:=by
  unfold El.settle
  intro h
  split at h
  · exact .inl (by simp_all)
  · rename_i h0
    rw [if_neg h0]
    split at h
    · rename_i h1
      rw [if_pos h1]
      revert h
      unfold El.settleHigher
      split
      · intro h; cases h
      · split
        · exact fun _=>.inl rfl
        · split
          · exact fun _=>.inl rfl
          · split
            · exact fun _=>.inr (.inl ⟨rfl,h1⟩)
            · exact fun _=>.inr (.inr ⟨rfl,h1⟩)
    · rename_i h1
      rw [if_neg h1]
      split at h
      · cases h
      · rename_i h2; rw [if_neg h2]; exact .inl rfl
theorem wf_step {r:Nat} {m:Msg} (s:St j e B A G E) (f:E.Fit) (hm:isMsg B r m) (hs:E.state=0∨E.state=1∨E.state=2∨E.state=3) (mf:m.Fit) (k:∀ A' G',St j e B A' G' (E.step m)→Q .none G'.h):WF (mkL Fn (dp + 11)) 48 [.ref e,.ref r] G.h Q:=by
  refine WF.go rfl rfl ?_
  have he:=s.he
  have hmG:=s.msg hm
  obtain ⟨er,ha⟩:=id hmG
  have hr:=ha.2
  have mk:=mf.kind
  unfold El.step at k
  refine WS.ite (by tb_rel) (fun h=>by simp at h; (exfalso; lia)) (fun _=>?_)
  refine WS.iteW (WX.not (WX.meth (PX.loc rfl) he rfl rfl (by tb_rel) (wf_settle s f hm fun A1 G1 s1=>⟨_,rfl,_,rfl,fun g=>?_,fun g=>?_⟩)))
  · rw [if_neg (by simpa using g)] at k
    exact WS.ret (WX.p PX.const (k A1 G1 s1))
  · have g':(E.settle m).2=true:=by simpa using g
    rw [if_pos g'] at k
    have low:=f.low m g'
    have f1:(E.settle m).1.Fit:=by
      have:=f.term
      rcases low with h | ⟨h,h'⟩ | ⟨h,h'⟩<;>rw [h]
      · exact f
      · exact f.bf (by lia)
      · exact f.bf (by lia)
    have st1:(E.settle m).1.state=0∨(E.settle m).1.state=1∨(E.settle m).1.state=2∨(E.settle m).1.state=3:=by
      rcases low with h | ⟨h,h'⟩ | ⟨h,h'⟩<;>rw [h]
      · exact hs
      · exact .inl rfl
      · exact .inl rfl
    have mt:m.kind=5∨m.kind=17→m.term≠0:=by
      intro h h0
      unfold El.settle at g'
      rw [if_pos h0] at g'
      unfold El.mayLack at g'
      rcases h with h | h<;>rw [h] at g'<;>simp at g'
    generalize (E.settle m).1=E1 at *
    have he1:=s1.he
    obtain ⟨er1,ha1⟩:=s1.msg hm
    have hr1:=ha1.2
    unfold El.after at k
    refine WS.ite (by tb_rel) (fun h=>?_) (fun h=>?_)
    · rw [if_pos (of_decide_eq_true h)] at k
      refine WS.ite (by tb_rel) (fun q=>?_) (fun q=>?_)
      · rw [if_pos q] at k
        exact WS.expr (WX.meth (PX.loc rfl) he1 rfl rfl (by tb_rel) (wf_hup s1 f1 1 fun A2 G2 s2=>WS.nil (k A2 G2 s2)))
      · rw [if_neg (by rw [q]; decide)] at k
        exact WS.expr (WX.meth (PX.loc rfl) he1 rfl rfl (by tb_rel) (wf_hup s1 f1 2 fun A2 G2 s2=>WS.nil (k A2 G2 s2)))
    · rw [if_neg (of_decide_eq_false h)] at k
      refine WS.ite (by tb_rel) (fun q=>?_) (fun q=>?_)
      · have q':m.kind=5∨m.kind=17:=by simpa using q
        rw [if_pos q'] at k
        exact WS.expr (WX.meth (PX.loc rfl) he1 rfl rfl (by tb_rel) (wf_answer_vote s1 f1 hm q' (mt q') fun A2 G2 s2=>WS.nil (k A2 G2 s2)))
      · rw [if_neg (by simpa using q)] at k
        refine WS.ite (by tb_rel) (fun l=>?_) (fun l=>?_)
        · rw [if_pos (of_decide_eq_true l)] at k
          exact WS.expr (WX.meth (PX.loc rfl) he1 rfl rfl (by tb_rel) (wf_pass rfl rfl rfl (WS.nil (k A1 G1 s1))))
        · rw [if_neg (of_decide_eq_false l)] at k
          refine WS.ite (by tb_rel) (fun z=>?_) (fun z=>?_)
          · rw [if_pos (of_decide_eq_true z)] at k
            exact WS.expr (WX.meth (PX.loc rfl) he1 rfl rfl (by tb_rel) (wf_step_follower s1 f1 hm fun A2 G2 s2=>WS.nil (k A2 G2 s2)))
          · rw [if_neg (of_decide_eq_false z)] at k
            exact WS.expr (WX.meth (PX.loc rfl) he1 rfl rfl (by tb_rel) (wf_step_candidate s1 f1 hm (by lia) (by have:=of_decide_eq_false l; have:=of_decide_eq_false z; simp_all) fun A2 G2 s2=>WS.nil (k A2 G2 s2)))
theorem wf_step_new {m:Msg} (s:St j e B A G E) (f:E.Fit) (hs:E.state=0∨E.state=1∨E.state=2∨E.state=3) (mf:m.Fit) (k:∀ A' G',St j e B A' G' (E.step m)→Q .none G'.h):WF (mkL Fn (dp + 12)) 48 [.ref e,.ref G.h.length] (G.h++[.inst 0 (mfs m (G.h.length + 1)),.list []]) Q:=by
  have s1:=s.grow (Gh.msg_ext s.mem.len m _)
  rw [← Gh.msg_h]
  exact wf_step s1.self f (Gh.msg_is s.mem.len m) hs mf fun A' G' s2=>k A' G' (s1.rebase s2)
theorem wf_tick (s:St j e B A G E) (f:E.Fit) (hs:E.state=0∨E.state=1∨E.state=2∨E.state=3) (k:∀ A' G',St j e B A' G' E.tick→Q .none G'.h):WF (mkL Fn (dp + 14)) 46 [.ref e] G.h Q:=by
  refine WF.go rfl rfl ?_
  have he:=s.he
  unfold El.tick at k
  refine WS.ite (by tb_rel) (fun h=>?_) (fun h=>?_)
  · rw [if_pos (of_decide_eq_true h)] at k
    exact WS.expr (WX.meth (PX.loc rfl) he rfl rfl PXs.nil (wf_pass rfl rfl rfl (WS.nil (k A G s))))
  · rw [if_neg (of_decide_eq_false h)] at k
    refine WS.expr (WX.meth (PX.loc rfl) he rfl rfl PXs.nil (WF.go rfl rfl ?_))
    refine WS.aug_elapsed s rfl fun G1 s1=>?_
    have no:∀ G1,St j e B A G1 { E with elapsed:=E.elapsed + 1 }→¬ (E.promotable=true∧E.timeout≤E.elapsed + 1)→WS (mkL Fn (dp + 12)) [] [some (.ref e)] G1.h fun fl _ H'=>WS (mkL Fn (dp + 13)) [] [some (.ref e)] H' fun fl _ H'=>Q (outOf fl) H':=by
      intro G1 s1 hn
      rw [if_neg hn] at k
      exact WS.nil (WS.nil (k A G1 s1))
    refine WS.iteW (WX.bop (WX.meth (PX.loc rfl) s1.he rfl rfl PXs.nil (wf_promotable s1 f.sm fun G2 s2=>⟨_,rfl,fun h1=>?_,fun h1=>⟨_,by rw [h1]; rfl,fun h=>(by cases h),fun _=>no G2 s2 fun ⟨a,_⟩=>?_⟩⟩)))
    · have he2:=s2.he
      refine WX.bop1 (WX.meth (PX.loc rfl) he2 rfl rfl PXs.nil (WF.go rfl rfl (WS.ret (WX.p (by tb_rel) ⟨_,rfl,fun h2=>?_,fun h2=>?_⟩))))
      · rw [if_pos ⟨h1,of_decide_eq_true h2⟩] at k
        refine WS.set_elapsed s2 rfl PX.const fun G3 s3=>?_
        have he3:=s3.he
        refine WS.expr (WX.methW (PX.loc rfl) he3 rfl rfl (WXs.cons (wx_message (by tb_rel) (by tb_rel) (by tb_rel) (by tb_rel) (WXs.nil ?_))))
        refine wf_step_new s3 ⟨f.sm,f.mem,f.nid0,f.term,f.votes,f.out⟩ hs ⟨.inl rfl,Int.le_refl _⟩ fun A4 G4 s4=>WS.nil (WS.nil (k A4 G4 s4))
      · exact no G2 s2 fun ⟨_,a⟩=>absurd a (of_decide_eq_false h2)
    · have h1':E.promotable=false:=h1
      rw [h1'] at a; cases a
end
end Mine
end
section
open PySem
namespace Mine
noncomputable abbrev Grow (G D:Gh):Prop:=Ext (fun _=>False) G D
theorem Ext.read {G D:Gh} (x:Grow G D) {r:Nat} {o:O} (h:G.h[r]?=some o):D.h[r]?=some o:=by
  have hl:r < G.t.length:=by rw [x.lenB]; exact (List.getElem?_eq_some_iff.mp h).1
  exact (x.keep r _ o id ⟨List.getElem?_eq_getElem hl,h⟩).2
theorem grow_put {G D:Gh} (x:Grow G D) {r:Nat} (h:G.h.length≤r) (o:O):Grow G (D.put r o) :=
  ⟨x.lenB,by show D.t.length=(D.h.set r o).length; rw [List.length_set]; exact x.len,x.pre,fun q σ u n a=>(x.keep q σ u n a).put_ne (by have:=a.lt; lia)⟩
theorem grow_new {G D:Gh} (x:Grow G D) (τ:Nat) (o:O):Grow G (D.new τ o):=x.trans (Ext.new x.len τ o)
section
variable {T:TL} {ρ:En} {ss:List S} {Q:Fl→En→Hp→Prop} {i:Nat} {x:X} {D:Gh} {r c f τ:Nat} {fs:List (Nat×V)} {ci:CI} {u:V}
theorem WS.setD (a:At D τ r (.inst c fs)) (hc:T.cls[c]?=some ci) (hf:ci.fields.contains f=true) (hρ:ρ[i]?=some (some (.ref r))) (p:PX ρ D.h x u)
    (w:At (D.put r (.inst c (fset f u fs))) τ r (.inst c (fset f u fs))→WS T ss ρ (D.put r (.inst c (fset f u fs))).h Q):WS T (.setattr (.loc i) f x::ss) ρ D.h Q :=
  WS.setattr (WX.p p ⟨r,c,fs,ci,PX.loc hρ,a.2,hc,hf,w a.put⟩)
theorem WS.setG (a:At D τ r (.inst c fs)) (hc:T.cls[c]?=some ci) (hf:ci.fields.contains f=true) (hρ:ρ[i]?=some (some (.ref r)))
    (w:WX T x ρ D.h fun u H₁=>∃ D₁:Gh,H₁=D₁.h∧Grow D D₁∧(At (D₁.put r (.inst c (fset f u fs))) τ r (.inst c (fset f u fs))→WS T ss ρ (D₁.put r (.inst c (fset f u fs))).h Q)):WS T (.setattr (.loc i) f x::ss) ρ D.h Q:=by
  refine WS.setattr (w.mono fun u H₁ ⟨D₁,e,g,k⟩=>?_)
  subst e
  have a':=g.keep _ _ _ id a
  exact ⟨r,c,fs,ci,PX.loc hρ,a'.2,hc,hf,k a'.put⟩
end
section
variable {Fn:List FI} {dp:Nat} {j e:Nat} {B G:Gh} {A:Adr} {E:El} {Q:V→Hp→Prop}
theorem wf_config {G:Gh} (hG:G.t.length=G.h.length) {a b c d:Nat} {as bs cs:List Int} (ha:G.h[a]?=some (zs as)) (hb:G.h[b]?=some (zs bs)) (hc:G.h[c]?=some (zs cs)) (hd:G.h[d]?=some (zs []))
    (la:as.length < 64) (lb:bs.length < 64) (lc:cs.length < 64) (k:∀ D,Grow G D→isConf D G.h.length ⟨risingP as,risingP bs,risingP cs⟩→Q .none D.h) :
    WF (mkL Fn (dp + 2)) 9 [.ref G.h.length,.ref a,.ref b,.ref c,.ref d,.bool false] (G.h++[.inst 1 []]) Q:=by
  refine WF.go rfl rfl ?_
  have a0:=At.fresh hG 0 (.inst 1 [])
  have x0:Grow G (G.new 0 (.inst 1 [])):=Ext.new hG 0 _
  refine WS.setG (D:=G.new 0 (.inst 1 [])) a0 rfl rfl rfl (WX.call (WXs.p (by tb_rel) (wf_rising x0.len (listOf_at (x0.read ha)) la fun D1 r1 y1 h1=>⟨D1,rfl,y1,fun a1=>?_⟩)))
  have x1:=grow_put (x0.trans y1) (Nat.le_refl _) (.inst 1 (fset 90 (.ref r1) []))
  have h1':At (D1.put G.h.length (.inst 1 (fset 90 (.ref r1) []))) 0 r1 (zs (risingP as)):=h1.put_ne ((y1.keep _ _ _ id a0).ne h1 (.inr (by simp [zs])))
  refine WS.setG a1 rfl rfl rfl (WX.call (WXs.p (by tb_rel) (wf_rising x1.len (listOf_at (x1.read hb)) lb fun D2 r2 y2 h2=>⟨D2,rfl,y2,fun a2=>?_⟩)))
  have x2:=grow_put (x1.trans y2) (Nat.le_refl _) (.inst 1 (fset 54 (.ref r2) (fset 90 (.ref r1) [])))
  have h1'':=(y2.keep _ _ _ id h1').put_ne (p:=.inst 1 (fset 54 (.ref r2) (fset 90 (.ref r1) []))) ((y2.keep _ _ _ id a1).ne (y2.keep _ _ _ id h1') (.inr (by simp [zs])))
  have h2':=h2.put_ne (p:=.inst 1 (fset 54 (.ref r2) (fset 90 (.ref r1) []))) ((y2.keep _ _ _ id a1).ne h2 (.inr (by simp [zs])))
  refine WS.setG a2 rfl rfl rfl (WX.call (WXs.p (by tb_rel) (wf_rising x2.len (listOf_at (x2.read hc)) lc fun D3 r3 y3 h3=>⟨D3,rfl,y3,fun a3=>?_⟩)))
  have x3:=grow_put (x2.trans y3) (Nat.le_refl _) (.inst 1 (fset 42 (.ref r3) (fset 54 (.ref r2) (fset 90 (.ref r1) []))))
  have n3 {r:Nat} {is:List Int} (h:At D3 0 r (zs is)):=h.put_ne (p:=.inst 1 (fset 42 (.ref r3) (fset 54 (.ref r2) (fset 90 (.ref r1) [])))) ((y3.keep _ _ _ id a2).ne h (.inr (by simp [zs])))
  refine WS.setG a3 rfl rfl rfl (WX.call (WXs.p (by tb_rel) (wf_rising x3.len (listOf_at (x3.read hd)) (by decide) fun D4 r4 y4 h4=>⟨D4,rfl,y4,fun a4=>?_⟩)))
  have x4:=grow_put (x3.trans y4) (Nat.le_refl _) (.inst 1 (fset 43 (.ref r4) (fset 42 (.ref r3) (fset 54 (.ref r2) (fset 90 (.ref r1) [])))))
  have n4 {r:Nat} {is:List Int} (h:At D4 0 r (zs is)):=h.put_ne (p:=.inst 1 (fset 43 (.ref r4) (fset 42 (.ref r3) (fset 54 (.ref r2) (fset 90 (.ref r1) []))))) ((y4.keep _ _ _ id a3).ne h (.inr (by simp [zs])))
  refine WS.setD a4 rfl rfl rfl (PX.loc rfl) fun a5=>WS.nil (k _ (grow_put x4 (Nat.le_refl _) _) ?_)
  have n5 {r:Nat} {is:List Int} {o:O} (h:At (D4.put G.h.length (.inst 1 (fset 43 (.ref r4) (fset 42 (.ref r3) (fset 54 (.ref r2) (fset 90 (.ref r1) [])))))) 0 r (zs is)):=h.put_ne (p:=o) (a4.ne h (.inr (by simp [zs])))
  exact ⟨r1,r2,r3,r4,a5,n5 (n4 (y4.keep _ _ _ id (n3 (y3.keep _ _ _ id h1'')))),n5 (n4 (y4.keep _ _ _ id (n3 (y3.keep _ _ _ id h2')))),n5 (n4 (y4.keep _ _ _ id (n3 h3))),n5 (n4 h4)⟩
theorem wx_config {ρ:En} {G:Gh} (hG:G.t.length=G.h.length) {x1 x2 x3 x4:X} {a b c d:Nat} {as bs cs:List Int} (p1:PX ρ G.h x1 (.ref a)) (p2:PX ρ G.h x2 (.ref b)) (p3:PX ρ G.h x3 (.ref c)) (p4:PX ρ G.h x4 (.ref d))
    (ha:G.h[a]?=some (zs as)) (hb:G.h[b]?=some (zs bs)) (hc:G.h[c]?=some (zs cs)) (hd:G.h[d]?=some (zs [])) (la:as.length < 64) (lb:bs.length < 64) (lc:cs.length < 64)
    {x5:X} (p5:PX ρ G.h x5 (.bool false))
    (k:∀ D r,Grow G D→isConf D r ⟨risingP as,risingP bs,risingP cs⟩→Q (.ref r) D.h):WX (mkL Fn (dp + 2)) (.new 1 [x1,x2,x3,x4,x5]) ρ G.h Q :=
  WX.new rfl (WXs.p (PXs.cons p1 (PXs.cons p2 (PXs.cons p3 (PXs.cons p4 (PXs.cons p5 PXs.nil))))) (wf_config hG ha hb hc hd la lb lc fun D x h=>⟨rfl,k D _ x h⟩))
theorem wf_copy {G:Gh} (hG:G.t.length=G.h.length) {c:Nat} {C:CfP} (hc:isConf G c C) (l:C.Small) (k:∀ D r,Grow G D→isConf D r ⟨risingP C.voters,risingP C.outgoing,risingP C.learners⟩→Q (.ref r) D.h):WF (mkL Fn (dp + 3)) 10 [.ref c] G.h Q:=by
  obtain ⟨a1,a2,a3,a4,h1,h2,h3,h4,h5⟩:=hc
  have h:=h1.2
  have l':=l.conf
  refine WF.go rfl rfl ?_
  exact WS.ret (wx_config hG (by tb_rel) (by tb_rel) (by tb_rel) (by tb_rel) h2.2 h3.2 h4.2 h5.2 (by lia) (by lia) (by lia) (by tb_rel) k)
theorem wf_ballots {G:Gh} (hG:G.t.length=G.h.length) (k:∀ D c v,Grow G D→At D j G.h.length (.inst 2 [(17,.ref c),(91,.ref v)])→At D j v (.dict [])→isConf D c ⟨[],[],[]⟩→Q .none D.h):WF (mkL Fn (dp + 3)) 16 [.ref G.h.length] (G.h++[.inst 2 []]) Q:=by
  refine WF.go rfl rfl ?_
  have a0:=At.fresh hG j (.inst 2 [])
  have x0:Grow G (G.new j (.inst 2 [])):=Ext.new hG j _
  refine WS.setG (D:=G.new j (.inst 2 [])) a0 rfl rfl rfl ?_
  have y1:Grow (G.new j (.inst 2 [])) ((G.new j (.inst 2 [])).new 0 (zs [])):=Ext.new x0.len 0 _
  have y2:=grow_new y1 0 (zs [])
  have y3:=grow_new y2 0 (zs [])
  have y4:=grow_new y3 0 (zs [])
  have b1:=At.fresh x0.len 0 (zs [])
  have b2:=At.fresh y1.len 0 (zs [])
  have b3:=At.fresh y2.len 0 (zs [])
  have b4:=At.fresh y3.len 0 (zs [])
  refine WX.new rfl (WXs.cons (WX.list (WXs.nil (WXs.cons (WX.list (WXs.nil (WXs.cons (WX.list (WXs.nil (WXs.cons (WX.list (WXs.nil (WXs.p (by tb_rel) ?_)))))))))))))
  refine wf_config (G:=((((G.new j (.inst 2 [])).new 0 (zs [])).new 0 (zs [])).new 0 (zs [])).new 0 (zs [])) y4.len (as:=[]) (bs:=[]) (cs:=[]) b1.new.new.new.2 b2.new.new.2 b3.new.2 b4.2 (by decide) (by decide) (by decide) fun D1 z1 hc=>⟨rfl,D1,rfl,y4.trans z1,fun a1=>?_⟩
  have x1:=x0.trans (y4.trans z1)
  refine WS.setG a1 rfl rfl rfl (WX.dict ⟨_,rfl,Ext.new (by show D1.t.length=(D1.h.set _ _).length; rw [List.length_set]; exact x1.len) j (.dict []),fun a2=>WS.nil (k _ _ _ (grow_put (grow_new (grow_put x1 (Nat.le_refl _) _) j (.dict [])) (Nat.le_refl _) _) a2 ?_ ?_)⟩)
  · have lp:=(grow_put x1 (Nat.le_refl _) (.inst 2 (fset 17 (.ref (((((G.new j (.inst 2 [])).new 0 (zs [])).new 0 (zs [])).new 0 (zs [])).new 0 (zs [])).h.length) []))).len
    have q:=At.fresh lp j (.dict [])
    exact q.put_ne (Nat.ne_of_lt (by have:=a1.lt; simpa [Gh.put] using this))
  · have z0:∀ {D:Gh} {o:O} {fs:List (Nat×V)},At D j G.h.length (.inst 2 fs)→∀ {C:CfP} {c:Nat},isConf D c C→isConf (D.put G.h.length o) c C:=by
      intro D o fs a C c h
      obtain ⟨a1,a2,a3,a4,h1,h2,h3,h4,h5⟩:=h
      exact ⟨a1,a2,a3,a4,h1.put_ne (a.ne h1 (.inr (by simp))),h2.put_ne (a.ne h2 (.inr (by simp [zs]))),h3.put_ne (a.ne h3 (.inr (by simp [zs]))),h4.put_ne (a.ne h4 (.inr (by simp [zs]))),h5.put_ne (a.ne h5 (.inr (by simp [zs])))⟩
    have c1:=z0 (o:=.inst 2 (fset 17 (.ref (((((G.new j (.inst 2 [])).new 0 (zs [])).new 0 (zs [])).new 0 (zs [])).new 0 (zs [])).h.length) [])) ((y4.trans z1).keep _ _ _ id a0) hc
    have lp:=(grow_put x1 (Nat.le_refl _) (.inst 2 (fset 17 (.ref (((((G.new j (.inst 2 [])).new 0 (zs [])).new 0 (zs [])).new 0 (zs [])).new 0 (zs [])).h.length) []))).len
    exact z0 a1.new (c1.ext (Ext.new (S:=fun _=>False) lp j (.dict [])) id)
end
end Mine
end
section
open PySem
namespace Mine
section
variable {Fn:List FI} {dp:Nat} {j e:Nat} {B G:Gh} {A:Adr} {E:El} {Q:V→Hp→Prop}
noncomputable def rcfs (nid:Int) (chk pre:Bool) (jit:V):List (Nat×V) :=
  [(52,.int nid),(23,.int 2),(31,.int 1),(78,.int 0),(35,jit),(4,.int 0),(48,.int 1048576),(45,.int 1048576),(49,.int 18446744073709551615),(46,.int 256),(47,.int 18446744073709551615),(15,.bool chk),(58,.bool pre),(60,.int 0),(53,.bool false),(75,.bool false)]
theorem wf_raftconfig {H:Hp} {n:Int} (q:Q .none (H++[.inst 3 (rcfs n false false (.tup [.int 0]))])):WF (mkL Fn (dp + 1)) 20 [.ref H.length,.int n,.int 2,.int 1,.int 0] (H++[.inst 3 []]) Q:=by
  refine WF.go rfl rfl ?_
  have sh:∀ H:Hp,binV .LShift (.int 1) (.int 20) H=some (.int 1048576,H):=fun H=>rfl
  refine WS.setN rfl rfl rfl (PX.loc rfl) (by kernel_rfl) (WS.setN rfl rfl rfl (PX.loc rfl) (by kernel_rfl) (WS.setN rfl rfl rfl (PX.loc rfl) (by kernel_rfl) (WS.setN rfl rfl rfl (PX.loc rfl) (by kernel_rfl) ?_)))
  refine WS.setN rfl rfl rfl (by tb_rel) (by kernel_rfl) (WS.setN rfl rfl rfl PX.const (by kernel_rfl) ?_)
  refine WS.setN rfl rfl rfl (PX.bin PX.const PX.const (sh _)) (by kernel_rfl) (WS.setN rfl rfl rfl (PX.bin PX.const PX.const (sh _)) (by kernel_rfl) ?_)
  refine WS.setN rfl rfl rfl PX.const (by kernel_rfl) (WS.setN rfl rfl rfl PX.const (by kernel_rfl) (WS.setN rfl rfl rfl PX.const (by kernel_rfl) (WS.setN rfl rfl rfl PX.const (by kernel_rfl) ?_)))
  refine WS.setN rfl rfl rfl PX.const (by kernel_rfl) (WS.setN rfl rfl rfl PX.const (by kernel_rfl) (WS.setN rfl rfl rfl PX.const (by kernel_rfl) (WS.setN rfl rfl rfl PX.const (by kernel_rfl) (WS.nil q))))
theorem wx_raftconfig {ρ:En} {H:Hp} {n:Int} {x y z w:X} (p1:PX ρ H x (.int n)) (p2:PX ρ H y (.int 2)) (p3:PX ρ H z (.int 1)) (p4:PX ρ H w (.int 0))
    (q:Q (.ref H.length) (H++[.inst 3 (rcfs n false false (.tup [.int 0]))])):WX (mkL Fn (dp + 1)) (.new 3 [x,y,z,w]) ρ H Q :=
  WX.new rfl (WXs.p (PXs.cons p1 (PXs.cons p2 (PXs.cons p3 (PXs.cons p4 PXs.nil)))) (wf_raftconfig ⟨rfl,q⟩))
theorem wf_check_all {H:Hp} {rc:Nat} {n:Int} {chk pre:Bool} {a b:V} (h:H[rc]?=some (.inst 3 (rcfs n chk pre (.tup [a,b])))) (hn:n≠0) (q:Q .none H):WF (mkL Fn (dp + 1)) 21 [.ref rc] H Q:=by
  refine WF.go rfl rfl ?_
  refine WS.ite (by tb_rel) (fun h=>absurd (of_decide_eq_true h) hn) (fun _=>?_)
  refine WS.ite (by tb_rel) (fun h=>by exact nB (show false=true from h)) (fun _=>?_)
  refine WS.ite (by tb_rel) (fun h=>by exact nB (show false=true from h)) (fun _=>?_)
  refine WS.ite (by tb_rel) (fun h=>by exact nB (show false=true from h)) (fun _=>?_)
  refine WS.ite (by tb_rel) (fun h=>by exact nB (show false=true from h)) (fun _=>?_)
  refine WS.ite (by tb_rel) (fun h=>by exact nB (show false=true from h)) (fun _=>?_)
  refine WS.ite (by tb_rel) (fun h=>by exact nB (show false=true from h)) (fun _=>?_)
  refine WS.ite (by tb_rel) (fun h=>by exact nB (show false=true from h)) (fun _=>?_)
  refine WS.ite (by tb_rel) (fun h=>by exact nB (show false=true from h)) (fun _=>?_)
  refine WS.ite (by tb_rel) (fun h=>by exact nB (show false=true from h)) (fun _=>?_)
  refine WS.ite (by tb_rel) (fun h=>by exact nB (show false=true from h)) (fun _=>?_)
  refine WS.ite (by tb_rel) (fun h=>by exact nB (show false=true from h)) (fun _=>?_)
  exact WS.nil q
theorem wf_elector {G:Gh} (hG:G.t.length=G.h.length) (j0:j≠0) {rc:Nat} {n:Int} {chk pre:Bool} (hrc:G.h[rc]?=some (.inst 3 (rcfs n chk pre (.tup [.int n,.int 0])))) (hn:n≠0)
    (k:∀ A' G',St j G.h.length G A' G' (El.born n chk pre)→Q .none G'.h):WF (mkL Fn (dp + 5)) 23 [.ref G.h.length,.ref rc] (G.h++[.inst 4 []]) Q:=by
  have hr:∀ l,(G.h++l)[rc]?=some (.inst 3 (rcfs n chk pre (.tup [.int n,.int 0]))):=fun l=>by
    rw [List.getElem?_append_left (List.getElem?_eq_some_iff.mp hrc).1]; exact hrc
  refine WF.go rfl rfl ?_
  refine WS.expr (WX.meth (PX.loc rfl) (hr _) rfl rfl PXs.nil (wf_check_all (hr _) hn ?_))
  refine WS.setN rfl rfl rfl (PX.loc rfl) (by kernel_rfl) (WS.setN rfl rfl rfl (PX.attr (PX.loc rfl) (hr _) rfl) (by kernel_rfl) (WS.setN rfl rfl rfl (PX.attr (PX.loc rfl) (hr _) rfl) (by kernel_rfl) ?_))
  refine WS.setN rfl rfl rfl (PX.attr (PX.loc rfl) (hr _) rfl) (by kernel_rfl) (WS.setN rfl rfl rfl (PX.attr (PX.loc rfl) (hr _) rfl) (by kernel_rfl) (WS.setN rfl rfl rfl (PX.attr (PX.loc rfl) (hr _) rfl) (by kernel_rfl) (WS.setN rfl rfl rfl (PX.attr (PX.loc rfl) (hr _) rfl) (by kernel_rfl) ?_)))
  refine WS.setN rfl rfl rfl PX.const (by kernel_rfl) (WS.setN rfl rfl rfl PX.const (by kernel_rfl) (WS.setN rfl rfl rfl PX.const (by kernel_rfl) (WS.setN rfl rfl rfl PX.const (by kernel_rfl) (WS.setNL rfl rfl rfl (by kernel_rfl) ?_))))
  refine WS.setN rfl rfl rfl PX.const (by kernel_rfl) (WS.setN rfl rfl rfl PX.const (by kernel_rfl) (WS.setN rfl rfl rfl (PX.attr (PX.loc rfl) (hr _) rfl) (by kernel_rfl) (WS.setN rfl rfl rfl PX.const (by kernel_rfl) (WS.setN rfl rfl rfl (by tb_rel) (by kernel_rfl) ?_))))
  generalize hfs:(_++[(38,V.tup [.int 0,.int 0])]:List (Nat×V))=fs
  have x1:Grow G (G.new j (.inst 4 fs)):=Ext.new hG j _
  have x2:Grow G ((G.new j (.inst 4 fs)).new j (.list [])):=grow_new x1 j _
  have a1:At ((G.new j (.inst 4 fs)).new j (.list [])) j G.h.length (.inst 4 fs):=(At.fresh hG j _).new
  have a2:At ((G.new j (.inst 4 fs)).new j (.list [])) j (G.h.length + 1) (.list []):=by
    have:=At.fresh x1.len j (.list [])
    rwa [show (G.new j (.inst 4 fs)).h.length=G.h.length + 1 by simp [Gh.new]] at this
  have e2:(G.h++O.inst 4 fs::([]++[O.list []]))=((G.new j (.inst 4 fs)).new j (.list [])).h:=by simp [Gh.new]
  rw [e2]
  generalize hD:(G.new j (.inst 4 fs)).new j (.list [])=D at *
  refine WS.expr (WX.meth (PX.loc rfl) a1.2 rfl rfl PXs.nil (WF.go rfl rfl ?_))
  refine WS.setG a1 rfl rfl rfl (WX.new rfl (WXs.nil (wf_ballots (j:=j) x2.len fun D1 c v y1 b1 b2 bc=>⟨rfl,D1,rfl,y1,fun a3=>WS.nil ?_⟩)))
  have x3:=grow_put (x2.trans y1) (Nat.le_refl _) (.inst 4 (fset 86 (.ref D.h.length) fs))
  have ne {r τ:Nat} {o:O} (b:At D1 τ r o) (h:j≠τ∨O.inst 4 fs≠o):At (D1.put G.h.length (.inst 4 (fset 86 (.ref D.h.length) fs))) τ r o:=b.put_ne ((y1.keep _ _ _ id a1).ne b h)
  have ef:fset 86 (.ref D.h.length) fs=efs ⟨rc,D.h.length,v,G.h.length + 1,c,[]⟩ (El.raw n chk pre):=by rw [fset_new (by rw [← hfs]; kernel_rfl),← hfs]; kernel_rfl
  have M:Mem j ⟨rc,D.h.length,v,G.h.length + 1,c,[]⟩ G.h.length (D1.put G.h.length (.inst 4 (fset 86 (.ref D.h.length) fs))) (El.raw n chk pre):=by
    refine ⟨x3.len,by rw [← ef]; exact a3,ne b1 (.inr (by simp)),ne b2 (.inr (by simp)),ne (y1.keep _ _ _ id a2) (.inr (by simp)),.nil,?_⟩
    obtain ⟨a1,a2,a3,a4,h1,h2,h3,h4,h5⟩:=bc
    exact ⟨a1,a2,a3,a4,ne h1 (.inl j0),ne h2 (.inl j0),ne h3 (.inl j0),ne h4 (.inl j0),ne h5 (.inl j0)⟩
  have s:St j G.h.length G _ _ _:=⟨j0,M,x3.weaken fun _ f=>f.elim⟩
  refine WS.expr (WX.meth (PX.loc rfl) s.he rfl rfl PXs.nil (wf_pass rfl rfl rfl ?_))
  have he:=s.he
  exact WS.expr (WX.meth (PX.loc rfl) s.he rfl rfl (by tb_rel) (wf_become_follower s _ _ fun A4 G4 s4=>WS.nil (k A4 G4 s4)))
theorem wx_elector {ρ:En} {G:Gh} (hG:G.t.length=G.h.length) (j0:j≠0) {rc:Nat} {n:Int} {chk pre:Bool} {x:X} (p:PX ρ G.h x (.ref rc)) (hrc:G.h[rc]?=some (.inst 3 (rcfs n chk pre (.tup [.int n,.int 0])))) (hn:n≠0)
    (k:∀ e A' G',St j e G A' G' (El.born n chk pre)→Q (.ref e) G'.h):WX (mkL Fn (dp + 5)) (.new 4 [x]) ρ G.h Q :=
  WX.new rfl (WXs.p (PXs.cons p PXs.nil) (wf_elector hG j0 hrc hn fun A' G' s=>⟨rfl,k _ A' G' s⟩))
theorem St.putc (s:St j e B A G E) {c:Nat} {C:CfP} (h:isConf G c C):St j e B { A with c:=c } (G.put A.t (.inst 2 [(17,.ref c),(91,.ref A.v)])) { E with conf:=C }:=by
  have m:=s.mem
  have j0:=s.j0
  have ne {q τ:Nat} {o p:O} (b:At G τ q o) (h:j≠τ∨O.inst 2 [(17,.ref A.c),(91,.ref A.v)]≠o):At (G.put A.t p) τ q o:=b.put_ne (m.t.ne b h)
  have x {p:O}:Ext (·=j) G (G.put A.t p):=.put m.len m.t rfl
  refine ⟨s.j0,⟨x.len,ne m.e (.inr (by simp)),m.t.put,ne m.v (.inr (by simp)),ne m.q (.inr (by simp)),?_,?_⟩,s.ext.trans x⟩
  · exact m.m.mono fun _ _=>isMsg.ext x fun e=>j0 e.symm
  · exact h.ext x fun e=>j0 e.symm
theorem wf_stand {c:Nat} {C:CfP} {t v a b:Int} (s:St j e B A G E) (hc:isConf B c C) (l:C.Small)
    (k:∀ A' G',St j e B A' G' { E with term:=t,vote:=v,conf:=⟨risingP C.voters,risingP C.outgoing,risingP C.learners⟩,last:=(a,b) }→Q .none G'.h) :
    WF (mkL Fn (dp + 4)) 26 [.ref e,.int t,.int v,.ref c,.tup [.int a,.int b]] G.h Q:=by
  refine WF.go rfl rfl ?_
  refine WS.set_term s rfl (PX.loc rfl) fun G1 s1=>WS.set_vote s1 rfl (PX.loc rfl) fun G2 s2=>?_
  have hc2:=hc.ext s2.ext fun e=>s2.j0 e.symm
  obtain ⟨a1,a2,a3,a4,h1,h2,h3,h4,h5⟩:=id hc2
  refine WS.setattr (WX.meth (PX.loc rfl) h1.2 rfl rfl PXs.nil (wf_copy s2.mem.len hc2 l fun D r x hr=>?_))
  have s3:=s2.grow x
  refine ⟨A.t,2,_,_,PX.attr (PX.loc rfl) s3.he rfl,s3.ht,rfl,rfl,?_⟩
  exact WS.set_last (s3.putc hr) rfl (PX.loc rfl) fun G5 s5=>WS.nil (k _ G5 s5)
end
end Mine
end
section
open PySem
namespace Mine
noncomputable def SI:List Int→Prop
  | []=>True
  | a::l=>(∀ b∈l,a < b)∧SI l
theorem SI.ext:∀ {l m:List Int},SI l→SI m→(∀ x,x∈l↔x∈m)→l=m
  | [],[],_,_,_=>rfl
  | [],b::m,_,_,h=>absurd ((h b).mpr (List.mem_cons_self ..)) (by simp)
  | a::l,[],_,_,h=>absurd ((h a).mp (List.mem_cons_self ..)) (by simp)
  | a::l,b::m,hl,hm,h=>by
    have e:a=b:=by
      rcases List.mem_cons.mp ((h a).mp (List.mem_cons_self ..)) with e | e
      · exact e
      · rcases List.mem_cons.mp ((h b).mpr (List.mem_cons_self ..)) with e' | e'
        · exact e'.symm
        · have:=hl.1 b e'; have:=hm.1 a e; (exfalso; lia)
    subst e
    rw [SI.ext hl.2 hm.2 fun x=>?_]
    constructor
    · intro hx
      rcases List.mem_cons.mp ((h x).mp (List.mem_cons_of_mem _ hx)) with e | e
      · have:=hl.1 x hx; simp_all
      · exact e
    · intro hx
      rcases List.mem_cons.mp ((h x).mpr (List.mem_cons_of_mem _ hx)) with e | e
      · have:=hm.1 x hx; lia
      · exact e
noncomputable def LE:List Int→Prop
  | []=>True
  | a::l=>(∀ b∈l,a≤b)∧LE l
theorem mem_ins (i x:Int) (l:List Int):x∈ins i l↔x=i∨x∈l:=by
  induction l with
  | nil=>exact List.mem_cons
  | cons j l ih =>
    rw [ins_cons]
    split
    · exact List.mem_cons
    · rw [List.mem_cons,ih,List.mem_cons]; exact or_left_comm
theorem LE_ins (i:Int) (l:List Int) (h:LE l):LE (ins i l):=by
  induction l with
  | nil=>exact ⟨fun b hb=>(List.not_mem_nil hb).elim,trivial⟩
  | cons j l ih =>
    rw [ins_cons]
    split
    · rename_i hij
      refine ⟨fun b hb=>?_,h⟩
      rcases List.mem_cons.mp hb with e | e
      · exact e▸hij
      · exact Int.le_trans hij (h.1 b e)
    · rename_i hij
      refine ⟨fun b hb=>?_,ih h.2⟩
      rcases (mem_ins i b l).mp hb with e | e
      · exact e▸Int.le_of_lt (Int.not_le.mp hij)
      · exact h.1 b e
theorem mem_isort (x:Int) (l:List Int):x∈isort l↔x∈l:=by
  induction l with
  | nil=>exact Iff.rfl
  | cons a l ih=>exact (mem_ins a x _).trans ((or_congr Iff.rfl ih).trans List.mem_cons.symm)
theorem LE_isort:∀ l,LE (isort l)
  | []=>trivial
  | a::l=>LE_ins a _ (LE_isort l)
theorem SI_append {l:List Int} {n:Int} (h:SI l) (k:∀ b∈l,b < n):SI (l++[n]):=by
  induction l with
  | nil=>exact ⟨by simp,trivial⟩
  | cons a l ih =>
    refine ⟨fun b hb=>?_,ih h.2 fun b hb=>k b (List.mem_cons_of_mem _ hb)⟩
    rcases List.mem_append.mp hb with e | e
    · exact h.1 b e
    · rw [List.mem_singleton.mp e]; exact k a (List.mem_cons_self ..)
theorem SI_last {l:List Int} {w:Int} (h:SI l) (hw:l.getLast?=some w):∀ b∈l,b≤w:=by
  induction l with
  | nil=>simp
  | cons a l ih =>
    intro b hb
    cases l with
    | nil=>simp at hw hb; simp [*]
    | cons c l =>
      rw [List.getLast?_cons_cons] at hw
      rcases List.mem_cons.mp hb with e | e
      · have h1:=ih h.2 hw c (List.mem_cons_self ..)
        have h2:=h.1 c (List.mem_cons_self ..)
        lia
      · exact ih h.2 hw b e
theorem rise_fold (l out:List Int) (hl:LE l) (h:SI out) (k:∀ b∈out,∀ c∈l,b≤c):SI (l.foldl rstep out)∧∀ x,x∈l.foldl rstep out↔x∈out∨x∈l:=by
  induction l generalizing out with
  | nil=>exact ⟨h,by simp⟩
  | cons a l ih =>
    rw [List.foldl_cons]
    have key:SI (rstep out a)∧(∀ x,x∈rstep out a↔x∈out∨x=a)∧∀ b∈rstep out a,∀ c∈l,b≤c:=by
      unfold rstep
      split
      · rename_i hc
        have lt:∀ b∈out,b < a:=by
          intro b hb
          rcases hc with e | e
          · subst e; simp at hb
          · have ne:out≠[]:=by rintro rfl; simp at hb
            obtain ⟨w,hw⟩:∃ w,out.getLast?=some w:=by
              cases hg:out.getLast? with
              | none=>exact absurd (List.getLast?_eq_none_iff.mp hg) ne
              | some w=>exact ⟨w,rfl⟩
            have h1:=SI_last h hw b hb
            have h2:=k w (List.mem_of_getLast? hw) a (List.mem_cons_self ..)
            have h3:w≠a:=by rintro rfl; exact e hw
            lia
        refine ⟨SI_append h lt,by simp,fun b hb c hc=>?_⟩
        rcases List.mem_append.mp hb with e | e
        · exact k b e c (List.mem_cons_of_mem _ hc)
        · rw [List.mem_singleton.mp e]; exact hl.1 c hc
      · rename_i hc
        have hl':out.getLast?=some a:=by
          by_cases e:out.getLast?=some a
          · exact e
          · exact absurd (.inr e) hc
        refine ⟨h,fun x=>⟨.inl,fun q=>q.elim id fun e=>e▸List.mem_of_getLast? hl'⟩,fun b hb c hc=>k b hb c (List.mem_cons_of_mem _ hc)⟩
    obtain ⟨k1,k2,k3⟩:=key
    obtain ⟨r1,r2⟩:=ih _ hl.2 k1 k3
    refine ⟨r1,fun x=>?_⟩
    rw [r2,k2,List.mem_cons,or_assoc]
theorem SI_rising (l:List Int):SI (risingP l):=(rise_fold (isort l) [] (LE_isort l) trivial (by simp)).1
theorem mem_rising (l:List Int) (x:Int):x∈risingP l↔x∈l:=by
  rw [risingP,(rise_fold (isort l) [] (LE_isort l) trivial (by simp)).2,mem_isort]; simp
theorem rising_SI {l:List Int} (h:SI l):risingP l=l:=(SI_rising l).ext h (mem_rising l)
theorem SI_filter {l:List Int} (h:SI l) (p:Int→Bool):SI (l.filter p):=by
  induction l with
  | nil=>trivial
  | cons a l ih =>
    rw [List.filter_cons]
    split
    · exact ⟨fun b hb=>h.1 b (List.mem_filter.mp hb).1,ih h.2⟩
    · exact ih h.2
noncomputable def upTo (n:Nat):List Int:=(List.range n).map fun (k:Nat)=>1 + (k:Int)
theorem mem_upTo (n:Nat) (x:Int):x∈upTo n↔1≤x∧x≤n:=by
  simp only [upTo,List.mem_map,List.mem_range]
  constructor
  · rintro ⟨k,h,rfl⟩; lia
  · intro ⟨h1,h2⟩; exact ⟨(x - 1).toNat,by omega,by lia⟩
theorem SI_upTo (n:Nat):SI (upTo n):=by
  induction n with
  | zero=>exact trivial
  | succ n ih =>
    have:upTo (n + 1)=upTo n++[1 + (n:Int)]:=by simp [upTo,List.range_succ]
    rw [this]
    exact SI_append ih fun b hb=>by have:=(mem_upTo n b).mp hb; lia
theorem majP_won {ids:List Int} {vs:List (Int×Bool)}:majP ids vs=3↔ids=[]∨ids.length < 2 * yes vs ids:=by
  unfold majP
  split
  · rename_i h; simp [h]
  · rename_i h
    split
    · rename_i h1; simp; right; lia
    · rename_i h1
      have:¬ (ids.length < 2 * yes vs ids):=by lia
      split<;>simp [h,this]<;>(first | lia | omega +splitDisjunctions)
theorem majP_lost {ids:List Int} {vs:List (Int×Bool)}:majP ids vs=2↔ids≠[]∧2 * (yes vs ids + miss vs ids)≤ids.length:=by
  unfold majP
  split
  · rename_i h; simp [h]
  · rename_i h
    split
    · rename_i h1; simp [h]; lia
    · split
      · simp [h]; lia
      · simp [h]; lia
theorem jointP_won {a b:List Int} {vs:List (Int×Bool)}:jointP a b vs=3↔majP a vs=3∧majP b vs=3:=by
  unfold jointP
  split
  · rename_i h; rw [← h]; simp
  · rename_i h
    split
    · rename_i h1
      constructor
      · intro h; cases h
      · intro ⟨p,q⟩; lia
    · constructor
      · intro h; cases h
      · intro ⟨p,q⟩; lia
theorem jointP_lost {a b:List Int} {vs:List (Int×Bool)}:jointP a b vs=2↔majP a vs=2∨majP b vs=2:=by
  unfold jointP
  split
  · rename_i h; rw [← h]; simp
  · rename_i h
    split
    · rename_i h1; simp [h1]
    · rename_i h1; simp [h1]
theorem meet {l:List Int} {p q:Int→Bool} (hp:l.length < 2 * l.countP p) (hq:l.length < 2 * l.countP q):∃ x∈l,p x=true∧q x=true:=by
  have key:∀ l:List Int,(∀ x∈l,¬ (p x=true∧q x=true))→l.countP p + l.countP q≤l.length:=by
    intro l
    induction l with
    | nil=>simp
    | cons a l ih =>
      intro h
      have h1:=ih fun x hx=>h x (List.mem_cons_of_mem _ hx)
      have h2:=h a (List.mem_cons_self ..)
      rw [List.countP_cons,List.countP_cons,List.length_cons]
      cases hp:p a<;>cases hq:q a<;>simp [hp,hq] at h2 ⊢<;>lia
  refine Classical.byContradiction fun hn=>?_
  have:=key l fun x hx h=>hn ⟨x,hx,h⟩
  lia
theorem countP_mono' {l:List Int} {p q:Int→Bool} (h:∀ x∈l,p x=true→q x=true):l.countP p≤l.countP q:=by
  induction l with
  | nil=>simp
  | cons a l ih =>
    have:=ih fun x hx=>h x (List.mem_cons_of_mem _ hx)
    have h2:=h a (List.mem_cons_self ..)
    rw [List.countP_cons,List.countP_cons]
    cases hp:p a<;>cases hq:q a<;>simp_all<;>lia
end Mine
end
section
open PySem
namespace Mine
noncomputable def votersP (halves:List (List Int)) (size:Nat):List Int:=(upTo size).filter fun j=>halves.any fun h=>decide (j∈h)
structure Hv (halves:List (List Int)) (size:Nat):Prop where
  shape:(∃ a,halves=[a])∨∃ a b,halves=[a,b]
  si:∀ h∈halves,SI h
  ne:∀ h∈halves,h≠[]
  inn:∀ h∈halves,∀ x∈h,1≤x∧x≤size
noncomputable def half0 (halves:List (List Int)):List Int:=halves.headD []
noncomputable def half1 (halves:List (List Int)):List Int:=halves.tail.headD []
noncomputable def confOf (halves:List (List Int)) (size:Nat):CfP:=⟨half0 halves,half1 halves,(upTo size).filter fun j=>decide (j∉half0 halves) && decide (j∉half1 halves)⟩
theorem mem_voters {halves:List (List Int)} {size:Nat} (x:Int):x∈votersP halves size↔(1≤x∧x≤size)∧∃ h∈halves,x∈h:=by
  simp [votersP,List.mem_filter,mem_upTo]
theorem Hv.allV {halves:List (List Int)} {size:Nat} (h:Hv halves size):(confOf halves size).allV=votersP halves size:=by
  refine (SI_rising _).ext (SI_filter (SI_upTo size) _) fun x=>?_
  have i:=h.inn
  rw [mem_rising,mem_voters]
  simp only [List.mem_append,confOf]
  rcases h.shape with ⟨a,rfl⟩ | ⟨a,b,rfl⟩
  · simp [half0,half1] at i ⊢
    exact fun hx=>i x hx
  · simp [half0,half1] at i ⊢
    intro hx; exact hx.elim (i.1 x) (i.2 x)
theorem Hv.members {halves:List (List Int)} {size:Nat} (_h:Hv halves size) (x:Int) (hx:1≤x∧x≤size):x∈(confOf halves size).members:=by
  rw [CfP.members,mem_rising]
  by_cases h0:x∈half0 halves
  · simp [confOf,h0]
  · by_cases h1:x∈half1 halves
    · simp [confOf,h1]
    · simp [confOf,h0,h1,mem_upTo,hx]
theorem vget_mem {vs:List (Int×Bool)} (h:(vs.map (·.1)).Nodup) (n:Int) (b:Bool):(n,b)∈vs↔vget vs n=some b:=by
  induction vs with
  | nil=>simp [vget]
  | cons p vs ih =>
    obtain ⟨a,c⟩:=p
    rw [List.map_cons,List.nodup_cons] at h
    have ih:=ih h.2
    rw [vget,List.lookup_cons]
    by_cases e:n=a
    · subst e
      simp only [List.mem_cons,Prod.mk.injEq,true_and,beq_self_eq_true,Option.some.injEq]
      constructor
      · intro q
        rcases q with q | q
        · exact q.symm
        · exact absurd (List.mem_map.mpr ⟨(n,b),q,rfl⟩) h.1
      · exact fun q=>.inl q.symm
    · have:(n == a)=false:=by simpa using e
      rw [this]
      simp only [List.mem_cons,Prod.mk.injEq,e,false_and,false_or]
      exact ih
end Mine
end
section
open PySem
namespace Mine
noncomputable def El.flush (E:El):El:={ E with out:=[] }
section
variable {hs:List (List Int)} {size:Nat} {check:Bool} {E:El} {m:Msg}
end
end Mine
end
section
open PySem
namespace Mine
section
variable {hs:List (List Int)} {size:Nat} {check:Bool} {E:El} {m:Msg}
theorem El.flush_eq (h:E.out=[]):E.flush=E:=by unfold El.flush; rw [← h]
theorem settle_eq (h0:m.term≠0) (ht:m.term=E.term):E.settle m=(E,true) :=
  (if_neg h0).trans ((if_neg (by lia)).trans (if_neg (by lia)))
theorem step_of {E₁:El} (h:E.settle m=(E₁,true)):E.step m=E₁.after m:=by
  unfold El.step; rw [h]; rfl
end
end Mine
end
section
open PySem
namespace Mine
noncomputable def El.low (E:El) (m:Msg) (E₁:El):Prop:=E₁=E∧m.term≤E.term∨E₁=E∧(m.kind=17∨m.kind=18∧m.rej=false)∧E.term < m.term∨(∃ l,E₁=E.becomeFollower m.term l∧(l=0∨l=m.frm∧El.fromLead m.kind=true))∧E.term < m.term∧m.kind≠17∧¬ (m.kind=18∧m.rej=false)
inductive Form (E:El) (m:Msg):El→Prop
  | same:Form E m E
  | lower:m.term < E.term→m.term≠0→Form E m (E.answerLower m)
  | stay (E₁:El):E.low m E₁→Form E m E₁
  | camp (E₁:El) (k:Int):E.low m E₁→E₁.state≠2→E₁.promotable=true→(m.kind=0∧(k=1∧E.pre=true∨k=2∧E.pre=false)∨k=3∧m.kind=14∧E₁.state=0)→Form E m (E₁.campaign k)
  | vote (E₁:El):E.low m E₁→(m.kind=5∨m.kind=17)→m.term≠0→E₁.term≤m.term→(E₁.term < m.term→m.kind=17)→Form E m (E₁.answerVote m)
  | heard (E₁:El):E.low m E₁→E₁.state=0→El.fromLead m.kind=true→Form E m { E₁ with elapsed:=0,leader:=m.frm }
  | yield:E.state=1∨E.state=3→El.fromLead m.kind=true→m.term=E.term→Form E m (E.becomeFollower m.term m.frm)
  | polled:(E.state=3∧m.kind=18∨E.state=1∧m.kind=6∧m.term=E.term)→Form E m (E.polled m)
theorem low_state {E E₁:El} {m:Msg} (l:E.low m E₁):E₁.pre=E.pre:=by
  rcases l with ⟨h,_⟩ | ⟨h,_⟩ | ⟨⟨_,h,_⟩,_⟩<;>rw [h]
  rfl
theorem step_form (E:El) (m:Msg) (hk:m.kind=0∨m.kind=3∨m.kind=4∨m.kind=5∨m.kind=6∨m.kind=8∨m.kind=14∨m.kind=17∨m.kind=18) (ht:0≤m.term) (hs:E.state=0∨E.state=1∨E.state=2∨E.state=3) (et:0 < E.term):Form E m (E.step m):=by
  have after:∀ E₁,E.low m E₁→(m.term≠0∨m.kind=0)→(E₁.term≤m.term∨m.kind=0)→(E₁.term < m.term→m.kind=17∨m.kind=18)→Form E m (E₁.after m):=by
    intro E₁ l h0 h1 h2
    have es:E₁.state=0∨E₁.state=1∨E₁.state=2∨E₁.state=3:=by
      rcases l with ⟨h,_⟩ | ⟨h,_⟩ | ⟨⟨_,h,_⟩,_⟩<;>rw [h]
      · exact hs
      · exact hs
      · exact .inl rfl
    have same:E₁.state≠0→E₁=E:=by
      intro h
      rcases l with ⟨h',_⟩ | ⟨h',_⟩ | ⟨⟨_,h',_⟩,_⟩
      · exact h'
      · exact h'
      · rw [h'] at h; exact absurd rfl h
    have hup:∀ k,(m.kind=0∧(k=1∧E.pre=true∨k=2∧E.pre=false)∨k=3∧m.kind=14∧E₁.state=0)→Form E m (E₁.hup k):=by
      intro k hk'
      unfold El.hup
      split
      · exact .stay E₁ l
      · rename_i h
        have h':E₁.state≠2∧E₁.promotable=true:=by simpa using h
        exact .camp E₁ k l h'.1 h'.2 hk'
    unfold El.after
    split
    · rename_i hk0
      refine hup _ (.inl ⟨hk0,?_⟩)
      rw [low_state l]
      cases hp:E.pre<;>simp
    · rename_i hk0
      split
      · rename_i hv
        refine .vote E₁ l hv (by simp_all) (by simp_all) fun h=>?_
        have:=h2 h
        lia
      · split
        · exact .stay E₁ l
        · split
          · rename_i h2s h0s
            unfold El.stepFollower
            split
            · rename_i hf; exact .heard E₁ l h0s hf
            · split
              · rename_i h14; exact hup 3 (.inr ⟨rfl,h14,h0s⟩)
              · exact .stay E₁ l
          · rename_i h2s h0s
            have e:=same h0s
            subst e
            unfold El.stepCandidate
            split
            · rename_i hf
              have hf':m.kind≠17∧m.kind≠18:=by constructor<;>(intro e; rw [e] at hf; exact absurd hf (by decide))
              refine .yield (by rcases es with h | h | h | h; exact absurd h h0s; exact .inl h; exact absurd h h2s; exact .inr h) hf ?_
              have:¬ E₁.term < m.term:=fun h=>by have:=h2 h; simp_all
              lia
            · split
              · rename_i h3
                split
                · rename_i h18; exact .polled (.inl ⟨h3,h18⟩)
                · exact .same
              · rename_i h3
                split
                · rename_i h6
                  refine .polled (.inr ⟨by rcases es with h | h | h | h; exact absurd h h0s; exact h; exact absurd h h2s; exact absurd h h3,h6,?_⟩)
                  have:¬ E₁.term < m.term:=fun h=>by have:=h2 h; simp_all
                  lia
                · exact .same
  unfold El.step
  split
  · rename_i hgo
    revert hgo
    unfold El.settle
    split
    · rename_i h0
      intro hgo
      have:m.kind=0:=by
        have hgo':El.mayLack m.kind=true:=hgo
        rcases hk with h | h | h | h | h | h | h | h | h<;>first | exact h | (rw [h] at hgo'; exact absurd hgo' (by decide))
      exact after E (.inl ⟨rfl,by lia⟩) (.inr this) (.inr this) (fun h=>by (exfalso; lia))
    · rename_i h0
      split
      · rename_i hgt
        unfold El.settleHigher
        split
        · intro h; cases h
        · split
          · rename_i h17
            intro _
            exact after E (.inr (.inl ⟨rfl,.inl h17,hgt⟩)) (.inl h0) (.inl (by show E.term≤m.term; exact Int.le_of_lt (by assumption))) fun _=>.inl h17
          · split
            · rename_i h18
              intro _
              exact after E (.inr (.inl ⟨rfl,.inr h18,hgt⟩)) (.inl h0) (.inl (by show E.term≤m.term; lia)) fun _=>.inr h18.1
            · split
              · rename_i hf
                intro _
                refine after _ (.inr (.inr ⟨⟨m.frm,rfl,.inr ⟨rfl,hf⟩⟩,hgt,by assumption,by assumption⟩)) (.inl h0) (.inl (Int.le_refl _)) fun h=>?_
                have:m.term < m.term:=h
                simp_all
              · intro _
                refine after _ (.inr (.inr ⟨⟨0,rfl,.inl rfl⟩,hgt,by assumption,by assumption⟩)) (.inl h0) (.inl (Int.le_refl _)) fun h=>?_
                have:m.term < m.term:=h
                lia
      · split
        · intro h; cases h
        · rename_i h1 h2
          intro _
          exact after E (.inl ⟨rfl,by exact Int.not_lt.mp (by assumption)⟩) (.inl h0) (.inl (by show E.term≤m.term; exact Int.not_lt.mp (by assumption))) fun h=>absurd h h1
  · rename_i hgo
    revert hgo
    unfold El.settle
    split
    · intro _; exact .same
    · rename_i h0
      split
      · rename_i hgt
        unfold El.settleHigher
        split
        · intro _; exact .same
        · split
          · intro h; exact absurd rfl h
          · split
            · intro h; exact absurd rfl h
            · split<;>(intro h; exact absurd rfl h)
      · split
        · rename_i h1 h2; intro _; exact .lower h2 h0
        · intro h; exact absurd rfl h
noncomputable def Cand (g:Int→Int→Int) (E:El):Prop:=E.state=1→E.vote=E.nid∧∀ v,vget E.votes v=some true→v=E.nid∨g E.term v=E.nid
noncomputable def WonBy (g:Int→Int→Int) (E:El) (t:Int):Prop:=∃ vs,jointP E.conf.voters E.conf.outgoing vs=3∧∀ v,vget vs v=some true→v=E.nid∨g t v=E.nid
structure Trg (g:Int→Int→Int) (E E':El) (rs:List Msg):Prop where
  nid:E'.nid=E.nid
  conf:E'.conf=E.conf
  check:E'.check=E.check
  pre:E'.pre=E.pre
  last:E'.last=E.last
  term:E.term≤E'.term
  vote:E'.term=E.term→E.vote≠0→E'.vote=E.vote
  frm:∀ r∈rs,r.frm=E.nid
  kinds:∀ r∈rs,r.kind=4∨r.kind=5∨r.kind=6∨r.kind=17∨r.kind=18
  asks:∀ r∈rs,r.kind=5→r.term=E'.term∧E'.vote=E.nid
  resp:∀ r∈rs,r.kind=6→r.rej=false→r.term=E'.term∧r.to=E'.vote
  cand:Cand g E'
  won:E'.state=2→E.state=2∧E'.term=E.term∨E'.vote=E.nid∧WonBy g E E'.term
section
variable {g:Int→Int→Int} {E E₁:El} {m:Msg}
theorem vget_cons (n v:Int) (b:Bool) (vs:List (Int×Bool)):vget ((n,b)::vs) v=if v=n then some b else vget vs v:=by
  rw [vget,List.lookup_cons]
  by_cases h:v=n
  · subst h; simp
  · rw [if_neg h,show (v == n)=false by simpa using h]; rfl
theorem vget_one {n v:Int} (h:vget [(n,true)] v=some true):v=n:=by
  rw [vget_cons] at h
  split at h
  · assumption
  · cases h
noncomputable def Same (E E':El):Prop:=E'.nid=E.nid∧E'.conf=E.conf∧E'.check=E.check∧E'.pre=E.pre∧E'.last=E.last
theorem tr_campE (k:Int) (hs:E.state≠2) (ho:E.out=[]):Trg g E (E.campaignE k) (E.campaignE k).out∧(E.campaignE k).term=E.term + 1:=by
  unfold El.campaignE
  dsimp only
  split
  · rename_i h
    refine ⟨⟨rfl,rfl,rfl,rfl,rfl,by show E.term≤E.term + 1; lia,fun e=>by have e':E.term + 1=E.term:=e; lia,?_,?_,?_,?_,fun e=>(by cases e),fun _=>.inr ⟨?_,[(E.nid,true)],h,fun v hv=>.inl (vget_one hv)⟩⟩,rfl⟩
    · intro r hr
      have hr':r∈E.out:=hr
      rw [ho] at hr'; cases hr'
    · intro r hr
      have hr':r∈E.out:=hr
      rw [ho] at hr'; cases hr'
    · intro r hr
      have hr':r∈E.out:=hr
      rw [ho] at hr'; cases hr'
    · intro r hr
      have hr':r∈E.out:=hr
      rw [ho] at hr'; cases hr'
    · show (if E.term + 1=E.term + 1 then E.nid else 0)=E.nid
      rw [if_pos rfl]
  · have hm:∀ r∈E.out++(E.becomeCandidate.record E.becomeCandidate.nid true).reqs 5 (E.term + 1) (decide (k=3)),r.frm=E.nid∧r.kind=5∧r.term=E.term + 1:=by
      intro r hr
      rw [ho,List.nil_append] at hr
      unfold El.reqs at hr
      obtain ⟨j,_,e⟩:=List.mem_map.mp hr
      rw [← e]; exact ⟨rfl,rfl,rfl⟩
    refine ⟨⟨rfl,rfl,rfl,rfl,rfl,by show E.term≤E.term + 1; lia,fun e=>by have e':E.term + 1=E.term:=e; (exfalso; lia),fun r hr=>(hm r hr).1,fun r hr=>.inr (.inl (hm r hr).2.1),fun r hr _=>⟨(hm r hr).2.2,rfl⟩,fun r hr h6=>by have:=(hm r hr).2.1; lia,fun _=>⟨rfl,fun v hv=>.inl (vget_one hv)⟩,fun e=>(by cases e)⟩,rfl⟩
theorem Trg.prep {E' E'':El} {rs:List Msg} (s:Same E E') (ht:E'.term=E.term) (hv:E'.vote=E.vote) (hs:E'.state≠2) (t:Trg g E' E'' rs):Trg g E E'' rs:=by
  obtain ⟨s1,s2,s3,s4,s5⟩:=s
  refine ⟨t.nid.trans s1,t.conf.trans s2,t.check.trans s3,t.pre.trans s4,t.last.trans s5,by rw [← ht]; exact t.term,by rw [← ht,← hv]; exact t.vote,by rw [← s1]; exact t.frm,t.kinds,by rw [← s1]; exact t.asks,t.resp,t.cand,fun h=>?_⟩
  rcases t.won h with ⟨a,_⟩ | ⟨a,vs,b,c⟩
  · exact absurd a hs
  · exact .inr ⟨by rw [← s1]; exact a,vs,by rw [← s2]; exact b,by rw [← s1]; exact c⟩
theorem tr_campP (hs:E.state≠2) (ho:E.out=[]):Trg g E E.campaignP E.campaignP.out:=by
  unfold El.campaignP
  dsimp only
  split
  · exact Trg.prep (E':=E.becomePre.record E.becomePre.nid true) ⟨rfl,rfl,rfl,rfl,rfl⟩ rfl rfl (by show (3:Int)≠2; decide) (tr_campE (E:=E.becomePre.record E.becomePre.nid true) 2 (by show (3:Int)≠2; decide) ho).1
  · have hm:∀ r∈E.out++(E.becomePre.record E.becomePre.nid true).reqs 17 (E.term + 1) false,r.frm=E.nid∧r.kind=17:=by
      intro r hr
      rw [ho,List.nil_append] at hr
      unfold El.reqs at hr
      obtain ⟨j,_,e⟩:=List.mem_map.mp hr
      rw [← e]; exact ⟨rfl,rfl⟩
    exact ⟨rfl,rfl,rfl,rfl,rfl,Int.le_refl _,fun _ _=>rfl,fun r hr=>(hm r hr).1,fun r hr=>.inr (.inr (.inr (.inl (hm r hr).2))),fun r hr h=>by have:=(hm r hr).2; lia,fun r hr h=>by have:=(hm r hr).2; lia,fun e=>(by cases e),fun e=>(by cases e)⟩
theorem tr_camp (k:Int) (hs:E.state≠2) (ho:E.out=[]):Trg g E (E.campaign k) (E.campaign k).out:=by
  unfold El.campaign
  split
  · exact tr_campP hs ho
  · exact (tr_campE k hs ho).1
theorem tr_same (c:Cand g E) (ho:E.out=[]):Trg g E E E.out:=by
  rw [ho]
  exact ⟨rfl,rfl,rfl,rfl,rfl,Int.le_refl _,fun _ _=>rfl,by simp,by simp,by simp,by simp,c,fun h=>.inl ⟨h,rfl⟩⟩
theorem Trg.fall {l t:Int} {E'':El} {rs:List Msg} (ht:E.term < t) (r:Trg g (E.becomeFollower t l) E'' rs):Trg g E E'' rs:=by
  have h1:t≤E''.term:=r.term
  refine ⟨r.nid,r.conf,r.check,r.pre,r.last,by lia,fun e=>by (exfalso; lia),r.frm,r.kinds,r.asks,r.resp,r.cand,fun h=>?_⟩
  rcases r.won h with ⟨a,_⟩ | a
  · cases a
  · exact .inr a
theorem cand_follower {t l:Int}:Cand g (E.becomeFollower t l):=fun h=>by cases h
theorem Trg.low {E'':El} {rs:List Msg} (l:E.low m E₁) (r:Trg g E₁ E'' rs):Trg g E E'' rs:=by
  rcases l with ⟨h,_⟩ | ⟨h,_⟩ | ⟨⟨_,h,_⟩,ht,_⟩
  · subst h; exact r
  · subst h; exact r
  · subst h; exact r.fall ht
theorem low_out (l:E.low m E₁):E₁.out=E.out:=by
  rcases l with ⟨h,_⟩ | ⟨h,_⟩ | ⟨⟨_,h,_⟩,_⟩<;>rw [h]
  rfl
theorem low_cand (l:E.low m E₁) (c:Cand g E):Cand g E₁:=by
  rcases l with ⟨h,_⟩ | ⟨h,_⟩ | ⟨⟨_,h,_⟩,_⟩<;>rw [h]
  · exact c
  · exact c
  · exact cand_follower
theorem tr_vote (c:Cand g E) (hn:E.nid≠0) (ho:E.out=[]) (hk:m.kind=5∨m.kind=17) (h1:E.term≤m.term) (h2:E.term < m.term→m.kind=17):Trg g E (E.answerVote m) (E.answerVote m).out:=by
  unfold El.answerVote
  split
  · rename_i hc
    dsimp only
    split
    · rename_i h5
      have hm:∀ r∈E.out++[({ kind:=m.kind + 1,to:=m.frm,frm:=E.nid,term:=m.term,lt:=0,ix:=0,rej:=false,tr:=false }:Msg)],r={ kind:=m.kind + 1,to:=m.frm,frm:=E.nid,term:=m.term,lt:=0,ix:=0,rej:=false,tr:=false }:=by
        intro r hr; rw [ho,List.nil_append] at hr; exact List.mem_singleton.mp hr
      have ht:m.term=E.term:=by
        have:¬ E.term < m.term:=fun h=>by have:=h2 h; simp_all
        lia
      have cv:E.vote=m.frm∨E.vote=0:=by
        have hc':E.canVote m=true:=by simp at hc; exact hc.1
        unfold El.canVote at hc'
        simp [h5] at hc'
        rcases hc' with h | h
        · exact .inl h
        · exact .inr h.1
      refine ⟨rfl,rfl,rfl,rfl,rfl,Int.le_refl _,fun _ hv=>?_,fun r hr=>by rw [hm r hr],fun r hr=>by rw [hm r hr]; simp; simp [*],fun r hr h=>by rw [hm r hr] at h; simp at h; (exfalso; lia),fun r hr _ _=>by rw [hm r hr]; exact ⟨ht,rfl⟩,fun h=>?_,fun h=>.inl ⟨h,rfl⟩⟩
      · show m.frm=E.vote
        rcases cv with h | h
        · exact h.symm
        · exact absurd h hv
      · obtain ⟨a,b⟩:=c h
        refine ⟨?_,b⟩
        show m.frm=E.nid
        rcases cv with h | h
        · lia
        · have:E.vote=E.nid:=a
          exact absurd (this.symm.trans h) hn
    · rename_i h5
      have hm:∀ r∈E.out++[({ kind:=m.kind + 1,to:=m.frm,frm:=E.nid,term:=m.term,lt:=0,ix:=0,rej:=false,tr:=false }:Msg)],r={ kind:=m.kind + 1,to:=m.frm,frm:=E.nid,term:=m.term,lt:=0,ix:=0,rej:=false,tr:=false }:=by
        intro r hr; rw [ho,List.nil_append] at hr; exact List.mem_singleton.mp hr
      exact ⟨rfl,rfl,rfl,rfl,rfl,Int.le_refl _,fun _ _=>rfl,fun r hr=>by rw [hm r hr],fun r hr=>by rw [hm r hr]; simp; simp_all,fun r hr h=>by rw [hm r hr] at h; simp at h; (exfalso; lia),fun r hr h=>by rw [hm r hr] at h; simp at h; (exfalso; lia),c,fun h=>.inl ⟨h,rfl⟩⟩
  · have hm:∀ r∈E.out++[({ kind:=m.kind + 1,to:=m.frm,frm:=E.nid,term:=E.term,lt:=0,ix:=0,rej:=true,tr:=false }:Msg)],r={ kind:=m.kind + 1,to:=m.frm,frm:=E.nid,term:=E.term,lt:=0,ix:=0,rej:=true,tr:=false }:=by
      intro r hr; rw [ho,List.nil_append] at hr; exact List.mem_singleton.mp hr
    exact ⟨rfl,rfl,rfl,rfl,rfl,Int.le_refl _,fun _ _=>rfl,fun r hr=>by rw [hm r hr],fun r hr=>by rw [hm r hr]; simp; lia,fun r hr h=>by rw [hm r hr] at h; simp at h; (exfalso; lia),fun r hr h h'=>(by rw [hm r hr] at h'; cases h'),c,fun h=>.inl ⟨h,rfl⟩⟩
theorem tr_lower (c:Cand g E) (ho:E.out=[]):Trg g E (E.answerLower m) (E.answerLower m).out:=by
  unfold El.answerLower
  split
  · have hm:∀ r∈E.out++[({ kind:=4,to:=m.frm,frm:=E.nid,term:=E.term,lt:=0,ix:=0,rej:=false,tr:=false }:Msg)],r={ kind:=4,to:=m.frm,frm:=E.nid,term:=E.term,lt:=0,ix:=0,rej:=false,tr:=false }:=by
      intro r hr; rw [ho,List.nil_append] at hr; exact List.mem_singleton.mp hr
    exact ⟨rfl,rfl,rfl,rfl,rfl,Int.le_refl _,fun _ _=>rfl,fun r hr=>by rw [hm r hr],fun r hr=>by rw [hm r hr]; simp,fun r hr h=>by rw [hm r hr] at h; simp at h,fun r hr h=>by rw [hm r hr] at h; simp at h,c,fun h=>.inl ⟨h,rfl⟩⟩
  · split
    · have hm:∀ r∈E.out++[({ kind:=18,to:=m.frm,frm:=E.nid,term:=E.term,lt:=0,ix:=0,rej:=true,tr:=false }:Msg)],r={ kind:=18,to:=m.frm,frm:=E.nid,term:=E.term,lt:=0,ix:=0,rej:=true,tr:=false }:=by
        intro r hr; rw [ho,List.nil_append] at hr; exact List.mem_singleton.mp hr
      exact ⟨rfl,rfl,rfl,rfl,rfl,Int.le_refl _,fun _ _=>rfl,fun r hr=>by rw [hm r hr],fun r hr=>by rw [hm r hr]; simp,fun r hr h=>by rw [hm r hr] at h; simp at h,fun r hr h=>by rw [hm r hr] at h; simp at h,c,fun h=>.inl ⟨h,rfl⟩⟩
    · exact tr_same c ho
theorem rec_facts {n:Int} {b:Bool}:Same E (E.record n b)∧(E.record n b).state=E.state∧(E.record n b).term=E.term∧(E.record n b).out=E.out∧(E.record n b).vote=E.vote:=by
  unfold El.record; split<;>exact ⟨⟨rfl,rfl,rfl,rfl,rfl⟩,rfl,rfl,rfl,rfl⟩
theorem rec_vget {n v:Int} {b:Bool} (h:vget (E.record n b).votes v=some true):vget E.votes v=some true∨v=n∧b=true:=by
  unfold El.record at h
  split at h
  · exact .inl h
  · have h':vget ((n,b)::E.votes) v=some true:=h
    rw [vget_cons] at h'
    split at h'
    · rename_i e
      exact .inr ⟨e,Option.some.inj h'⟩
    · exact .inl h'
theorem tr_polled (c:Cand g E) (ho:E.out=[]) (hs:E.state=3∧m.kind=18∨E.state=1∧m.kind=6∧m.term=E.term) (hm:m.kind=6→m.rej=false→g m.term m.frm=E.nid):Trg g E (E.polled m) (E.polled m).out:=by
  obtain ⟨s,r1,r2,r3,r4⟩:=rec_facts (E:=E) (n:=m.frm) (b:=!m.rej)
  have c':Cand g (E.record m.frm (!m.rej)):=by
    intro h
    rw [r1] at h
    obtain ⟨a,b⟩:=c h
    refine ⟨by rw [r4,s.1]; exact a,fun v hv=>?_⟩
    rw [r2,s.1]
    rcases rec_vget hv with h' | ⟨h',h''⟩
    · exact b v h'
    · rcases hs with e | ⟨_,e6,et⟩
      · simp_all
      · have:=hm e6 (by simpa using h'')
        rw [et] at this
        rw [h']; exact .inr this
  unfold El.polled
  dsimp only
  split
  · rename_i h3
    unfold El.won
    split
    · exact Trg.prep s r2 r4 (by rw [r1]; lia) (tr_campE 2 (by rw [r1]; lia) (by rw [r3]; exact ho)).1
    · rename_i hn3
      rw [r1] at hn3
      have h1:E.state=1:=by lia
      have nil:(E.record m.frm (!m.rej)).becomeLeader.out=[]:=r3.trans ho
      have tm:(E.record m.frm (!m.rej)).becomeLeader.term=E.term:=r2
      have vt:(E.record m.frm (!m.rej)).becomeLeader.vote=E.vote:=by
        show (if (E.record m.frm (!m.rej)).term=(E.record m.frm (!m.rej)).term then (E.record m.frm (!m.rej)).vote else 0)=_
        rw [if_pos rfl]; exact r4
      rw [nil]
      refine ⟨s.1,s.2.1,s.2.2.1,s.2.2.2.1,s.2.2.2.2,by rw [tm]; exact Int.le_refl _,fun _ _=>vt,by simp,by simp,by simp,by simp,fun h=>(by cases h),fun _=>.inr ⟨by rw [vt]; exact (c h1).1,(E.record m.frm (!m.rej)).votes,?_,fun v hv=>?_⟩⟩
      · have:jointP (E.record m.frm (!m.rej)).conf.voters (E.record m.frm (!m.rej)).conf.outgoing (E.record m.frm (!m.rej)).votes=3:=h3
        rw [s.2.1] at this; exact this
      · have:=(c' (r1.trans h1)).2 v hv
        rw [r2,s.1] at this
        rw [tm]; exact this
  · split
    · have nil:((E.record m.frm (!m.rej)).becomeFollower (E.record m.frm (!m.rej)).term 0).out=[]:=r3.trans ho
      rw [nil]
      refine ⟨s.1,s.2.1,s.2.2.1,s.2.2.2.1,s.2.2.2.2,by show E.term≤(E.record m.frm (!m.rej)).term; rw [r2]; exact Int.le_refl _,fun _ _=>?_,by simp,by simp,by simp,by simp,cand_follower,fun h=>(by cases h)⟩
      show (if (E.record m.frm (!m.rej)).term=(E.record m.frm (!m.rej)).term then (E.record m.frm (!m.rej)).vote else 0)=_
      rw [if_pos rfl]; exact r4
    · rw [r3,ho]
      exact ⟨s.1,s.2.1,s.2.2.1,s.2.2.2.1,s.2.2.2.2,by rw [r2]; exact Int.le_refl _,fun _ _=>r4,by simp,by simp,by simp,by simp,c',fun h=>.inl ⟨r1▸h,r2⟩⟩
theorem low_nid (l:E.low m E₁):E₁.nid=E.nid:=by
  rcases l with ⟨h,_⟩ | ⟨h,_⟩ | ⟨⟨_,h,_⟩,_⟩<;>rw [h]
  rfl
theorem tr_form {E':El} (f:Form E m E') (c:Cand g E) (hn:E.nid≠0) (ho:E.out=[]) (hm:m.kind=6→m.rej=false→g m.term m.frm=E.nid):Trg g E E' E'.out:=by
  cases f with
  | same=>exact tr_same c ho
  | lower _ _=>exact tr_lower c ho
  | stay _ l=>exact (tr_same (low_cand l c) (by rw [low_out l]; exact ho)).low l
  | camp E₁ k l hs _ _=>exact (tr_camp k hs (by rw [low_out l]; exact ho)).low l
  | vote E₁ l hk _ h1 h2=>exact (tr_vote (low_cand l c) (by rw [low_nid l]; exact hn) (by rw [low_out l]; exact ho) hk h1 h2).low l
  | heard E₁ l h0 _ =>
    have o1:E₁.out=[]:=by rw [low_out l]; exact ho
    refine Trg.low l ?_
    show Trg g E₁ _ E₁.out
    rw [o1]
    exact ⟨rfl,rfl,rfl,rfl,rfl,Int.le_refl _,fun _ _=>rfl,by simp,by simp,by simp,by simp,fun h=>by have h':E₁.state=1:=h; (exfalso; lia),fun h=>by have h':E₁.state=2:=h; simp_all⟩
  | yield hs _ ht =>
    show Trg g E _ E.out
    rw [ho]
    exact ⟨rfl,rfl,rfl,rfl,rfl,by show E.term≤m.term; simp_all,fun _ _=>by show (if E.term=m.term then E.vote else 0)=E.vote; rw [if_pos ht.symm],by simp,by simp,by simp,by simp,cand_follower,fun h=>(by cases h)⟩
  | polled h=>exact tr_polled c ho h hm
end
end Mine
end
section
open PySem
namespace Mine
structure OutOk (E:El) (m r:Msg):Prop where
  term:0 < r.term
  frm:r.frm=E.nid
  what:(r.kind=5∨r.kind=17)∧r.to∈E.conf.allV∧r.to≠E.nid∧r.ix=E.last.1∧r.lt=E.last.2∧r.rej=false∧(r.tr=true→m.kind=14)∨(r.kind=4∨r.kind=6∨r.kind=18)∧r.to=m.frm∧r.tr=false
section
variable {E E₁:El} {m:Msg}
theorem outs_reqs {asked term:Int} {tr:Bool} (ha:asked=5∨asked=17) (ht:0 < term) (htr:tr=true→m.kind=14) {r:Msg} (hr:r∈E.reqs asked term tr):OutOk E m r:=by
  unfold El.reqs at hr
  obtain ⟨j,hj,e⟩:=List.mem_map.mp hr
  rw [List.mem_filter] at hj
  rw [← e]
  exact ⟨ht,rfl,.inl ⟨ha,hj.1,by simpa using hj.2,rfl,rfl,rfl,htr⟩⟩
theorem OutOk.same {E':El} {r:Msg} (s:Same E E') (h:OutOk E' m r):OutOk E m r:=by
  obtain ⟨s1,s2,s3,s4,s5⟩:=s
  refine ⟨h.term,h.frm.trans s1,?_⟩
  have:=h.what
  rw [s1,s2,s5] at this
  exact this
theorem outs_campE (k:Int) (ho:E.out=[]) (ht:0 < E.term) (hk:k=3→m.kind=14) {r:Msg} (hr:r∈(E.campaignE k).out):OutOk E m r:=by
  unfold El.campaignE at hr
  dsimp only at hr
  split at hr
  · have hr':r∈E.out:=hr
    rw [ho] at hr'; cases hr'
  · have hr':r∈E.out++(E.becomeCandidate.record E.becomeCandidate.nid true).reqs 5 (E.term + 1) (decide (k=3)):=hr
    rw [ho,List.nil_append] at hr'
    have q:=outs_reqs (m:=m) (.inl rfl) (by lia) (fun h=>hk (of_decide_eq_true h)) hr'
    exact OutOk.same (E':=E.becomeCandidate.record E.becomeCandidate.nid true) ⟨rfl,rfl,rfl,rfl,rfl⟩ q
theorem outs_camp (k:Int) (ho:E.out=[]) (ht:0 < E.term) (hk:k=3→m.kind=14) {r:Msg} (hr:r∈(E.campaign k).out):OutOk E m r:=by
  unfold El.campaign at hr
  split at hr
  · unfold El.campaignP at hr
    dsimp only at hr
    split at hr
    · exact OutOk.same (E':=E.becomePre.record E.becomePre.nid true) ⟨rfl,rfl,rfl,rfl,rfl⟩ (outs_campE (E:=E.becomePre.record E.becomePre.nid true) 2 ho ht (fun h=>by cases h) hr)
    · have hr':r∈E.out++(E.becomePre.record E.becomePre.nid true).reqs 17 (E.term + 1) false:=hr
      rw [ho,List.nil_append] at hr'
      exact OutOk.same (E':=E.becomePre.record E.becomePre.nid true) ⟨rfl,rfl,rfl,rfl,rfl⟩ (outs_reqs (m:=m) (.inr rfl) (by lia) (fun h=>by cases h) hr')
  · exact outs_campE k ho ht hk hr
theorem low_same (l:E.low m E₁):Same E E₁:=by
  rcases l with ⟨h,_⟩ | ⟨h,_⟩ | ⟨⟨_,h,_⟩,_⟩<;>rw [h]<;>exact ⟨rfl,rfl,rfl,rfl,rfl⟩
theorem low_term (l:E.low m E₁) (ht:0 < E.term):0 < E₁.term:=by
  rcases l with ⟨h,_⟩ | ⟨h,_⟩ | ⟨⟨_,h,_⟩,h',_⟩<;>rw [h]
  · exact ht
  · exact ht
  · show 0 < m.term; lia
theorem outs_form {E':El} (f:Form E m E') (ho:E.out=[]) (ht:0 < E.term) (hm:0≤m.term) {r:Msg} (hr:r∈E'.out):OutOk E m r:=by
  have none:∀ {E':El},E'.out=E.out→r∈E'.out→False:=fun e h=>by rw [e,ho] at h; cases h
  cases f with
  | same=>exact (none rfl hr).elim
  | lower h1 h2 =>
    unfold El.answerLower at hr
    split at hr
    · have hr':r∈E.out++_:=hr
      rw [ho,List.nil_append,List.mem_singleton] at hr'
      rw [hr']
      exact ⟨ht,rfl,.inr ⟨.inl rfl,rfl,rfl⟩⟩
    · split at hr
      · have hr':r∈E.out++_:=hr
        rw [ho,List.nil_append,List.mem_singleton] at hr'
        rw [hr']
        exact ⟨ht,rfl,.inr ⟨.inr (.inr rfl),rfl,rfl⟩⟩
      · exact (none rfl hr).elim
  | stay _ l=>exact (none (low_out l) hr).elim
  | camp E₁ k l hs _ hk=>exact OutOk.same (low_same l) (outs_camp k (by rw [low_out l]; exact ho) (low_term l ht) (fun h=>by lia) hr)
  | vote E₁ l hk h0 h1 h2 =>
    refine OutOk.same (low_same l) ?_
    have ho1:E₁.out=[]:=by rw [low_out l]; exact ho
    unfold El.answerVote at hr
    split at hr
    · dsimp only at hr
      have hr':r∈E₁.out++[({ kind:=m.kind + 1,to:=m.frm,frm:=E₁.nid,term:=m.term,lt:=0,ix:=0,rej:=false,tr:=false }:Msg)]:=by
        split at hr<;>exact hr
      rw [ho1,List.nil_append,List.mem_singleton] at hr'
      rw [hr']
      exact ⟨by show 0 < m.term; lia,rfl,.inr ⟨by show m.kind + 1=4∨m.kind + 1=6∨m.kind + 1=18; lia,rfl,rfl⟩⟩
    · have hr':r∈E₁.out++_:=hr
      rw [ho1,List.nil_append,List.mem_singleton] at hr'
      rw [hr']
      exact ⟨low_term l ht,rfl,.inr ⟨by show m.kind + 1=4∨m.kind + 1=6∨m.kind + 1=18; lia,rfl,rfl⟩⟩
  | heard E₁ l _ _=>exact (none (low_out l) hr).elim
  | yield _ _ _=>exact (none rfl hr).elim
  | polled h =>
    obtain ⟨s,r1,r2,r3,r4⟩:=rec_facts (E:=E) (n:=m.frm) (b:=!m.rej)
    unfold El.polled at hr
    dsimp only at hr
    split at hr
    · unfold El.won at hr
      split at hr
      · exact OutOk.same s (outs_campE 2 (r3.trans ho) (by rw [r2]; exact ht) (fun h=>by cases h) hr)
      · exact (none r3 hr).elim
    · split at hr
      · exact (none r3 hr).elim
      · exact (none r3 hr).elim
theorem tick_cases (E:El):E.state=2∧E.tick=E∨E.state≠2∧(E.promotable=true∧E.timeout≤E.elapsed + 1)∧E.tick={ E with elapsed:=0 }.step (El.hupMsg E.nid)∨E.state≠2∧¬ (E.promotable=true∧E.timeout≤E.elapsed + 1)∧E.tick={ E with elapsed:=E.elapsed + 1 }:=by
  unfold El.tick
  split
  · exact .inl ⟨by assumption,rfl⟩
  · split
    · exact .inr (.inl ⟨by assumption,by assumption,rfl⟩)
    · exact .inr (.inr ⟨by assumption,by assumption,rfl⟩)
variable {g:Int→Int→Int}
end
noncomputable def gset (g:Int→Int→Int) (t n v:Int):Int→Int→Int:=fun t' n'=>if t'=t∧n'=n then v else g t' n'
noncomputable def GLe (g g':Int→Int→Int):Prop:=∀ t n,g t n≠0→g' t n=g t n
noncomputable def Led (halves:List (List Int)) (g:Int→Int→Int) (t n:Int):Prop:=∀ h∈halves,h.length < 2 * h.countP fun v=>decide (g t v=n)
theorem Led.mono {halves:List (List Int)} {g g':Int→Int→Int} (x:GLe g g') {t n:Int} (hn:n≠0) (h:Led halves g t n):Led halves g' t n:=by
  intro hf hm
  have:=h hf hm
  have c:=countP_mono' (l:=hf) (p:=fun v=>decide (g t v=n)) (q:=fun v=>decide (g' t v=n)) fun v _ e=>by
    have e':g t v=n:=of_decide_eq_true e
    have:g' t v=n:=by rw [x t v (by rw [e']; exact hn)]; exact e'
    exact decide_eq_true this
  lia
theorem Cand.mono {g g':Int→Int→Int} (x:GLe g g') {E:El} (hn:E.nid≠0) (c:Cand g E):Cand g' E:=by
  intro h
  obtain ⟨a,b⟩:=c h
  refine ⟨a,fun v hv=>?_⟩
  rcases b v hv with e | e
  · exact .inl e
  · exact .inr (by rw [x _ _ (by rw [e]; exact hn)]; exact e)
noncomputable def Mine1 (g:Int→Int→Int) (E:El):Prop:=g E.term E.nid=E.vote∧∀ t,E.term < t→g t E.nid=0
theorem gset_le {g:Int→Int→Int} {E E':El} {rs:List Msg} (o:Mine1 g E) (tr:Trg g E E' rs):GLe g (gset g E'.term E.nid E'.vote):=by
  intro t n h
  unfold gset
  split
  · rename_i e
    obtain ⟨rfl,rfl⟩:=e
    have h1:=tr.term
    by_cases e:E'.term=E.term
    · rw [e,o.1] at h ⊢
      exact tr.vote e h
    · exact absurd (o.2 E'.term (by lia)) h
  · rfl
theorem mine_set {g:Int→Int→Int} {E E':El} {rs:List Msg} (o:Mine1 g E) (tr:Trg g E E' rs):Mine1 (gset g E'.term E.nid E'.vote) E':=by
  refine ⟨?_,fun t ht=>?_⟩
  · unfold gset; rw [if_pos ⟨rfl,tr.nid⟩]
  · unfold gset; rw [if_neg (by lia),tr.nid]
    have:=tr.term
    exact o.2 t (by exact Int.lt_of_le_of_lt (by assumption) (by assumption))
theorem mine_other {g:Int→Int→Int} {E:El} {t n v:Int} (o:Mine1 g E) (h:E.nid≠n):Mine1 (gset g t n v) E:=by
  refine ⟨?_,fun t' ht=>?_⟩
  · unfold gset; rw [if_neg (fun e=>h e.2)]; exact o.1
  · unfold gset; rw [if_neg (fun e=>h e.2)]; exact o.2 t' ht
theorem wonBy_led {g g':Int→Int→Int} {E:El} {t:Int} {halves:List (List Int)} (x:GLe g g') (hn:E.nid≠0) (own:g' t E.nid=E.nid) (w:WonBy g E t)
    (hh:∀ h∈halves,h≠[]∧(h=E.conf.voters∨h=E.conf.outgoing)):Led halves g' t E.nid:=by
  obtain ⟨vs,hj,hv⟩:=w
  rw [jointP_won] at hj
  intro h hm
  obtain ⟨hne,hc⟩:=hh h hm
  have hw:majP h vs=3:=by
    rcases hc with e | e
    · rw [e]; exact hj.1
    · rw [e]; exact hj.2
  rw [majP_won] at hw
  have hy:=hw.resolve_left hne
  have c:=countP_mono' (l:=h) (p:=fun n=>vget vs n == some true) (q:=fun v=>decide (g' t v=E.nid)) fun v _ e=>by
    have e':vget vs v=some true:=by simpa using e
    refine decide_eq_true ?_
    rcases hv v e' with q | q
    · rw [q]; exact own
    · rw [x _ _ (by rw [q]; exact hn)]; exact q
  unfold yes at hy
  lia
end Mine
end
section
open PySem
namespace Mine
structure Wc where
  hs:List (List Int)
  size:Nat
  check:Bool
noncomputable def anewE (nid:Int) (check pre:Bool) (C:CfP) (term vote:Int) (last:Int×Int):El:={ El.born nid check pre with term:=term,vote:=vote,conf:=C,last:=last }
section
variable {c:Wc} {g:Int→Int→Int} {i:Nat} {E:El} {m:Msg}
theorem set_cases {α:Type} {l:List α} {i k:Nat} {a x:α} (h:(l.set i a)[k]?=some x):(k=i∧x=a)∨(k≠i∧l[k]?=some x):=by
  by_cases e:i=k
  · subst e
    have hlt:i < (l.set i a).length:=(List.getElem?_eq_some_iff.mp h).1
    rw [List.length_set] at hlt
    rw [List.getElem?_set_self hlt] at h
    exact .inl ⟨rfl,(Option.some.inj h).symm⟩
  · rw [List.getElem?_set_ne e] at h
    exact .inr ⟨fun q=>e q.symm,h⟩
end
end Mine
end
section
open PySem
namespace Mine
section
variable {c:Wc} {calm:List Int} {lead x:Int} {E:El} {m:Msg}
end
end Mine
end
section
open PySem
namespace Mine
section
variable {c:Wc} {calm:List Int} {lead x:Int} {g:Int→Int→Int} {m:Msg}
end
section
variable {E:El} {m:Msg}
theorem lease0 (h:E.leader=0):E.inLease=false:=by unfold El.inLease; simp [h]
theorem ev17 (hk:m.kind=17) (h0:m.term≠0) (hr:m.ix=1∧m.lt=1) (hl:E.last=(1,1)) (h:E.leader=0) (ht:E.term≤m.term) (cv:E.vote=m.frm∨E.vote=0∨E.term < m.term) :
    E.step m=E.send { kind:=18,to:=m.frm,frm:=E.nid,term:=m.term,lt:=0,ix:=0,rej:=false,tr:=false }:=by
  have e:E.settle m=(E,true):=by
    by_cases q:E.term < m.term
    · unfold El.settle
      rw [if_neg h0,if_pos q]
      unfold El.settleHigher
      rw [if_neg (by rw [lease0 h]; simp),if_pos hk]
    · exact settle_eq h0 (by lia)
  rw [step_of e]
  unfold El.after
  rw [if_neg (by lia),if_pos (.inr hk)]
  unfold El.answerVote
  have up:E.upToDate m.ix m.lt=true:=by unfold El.upToDate; rw [hl,hr.1,hr.2]; rfl
  have cn:E.canVote m=true:=by
    unfold El.canVote
    rcases cv with q | q | q
    · simp [q]
    · simp [q,h]
    · simp [q,hk]
  rw [if_pos (by rw [up,cn]; rfl)]
  dsimp only
  rw [if_neg (by lia),hk]
  rfl
theorem ev5 (hk:m.kind=5) (h0:m.term≠0) (hr:m.ix=1∧m.lt=1) (hl:E.last=(1,1)) (h:E.leader=0) (cv:E.term < m.term∨E.term=m.term∧E.vote=m.frm):∃ E₁:El,(E₁=E∧E.term=m.term∨E₁=E.becomeFollower m.term 0) ∧
    E.step m={ E₁ with elapsed:=0,vote:=m.frm,out:=E.out++[{ kind:=6,to:=m.frm,frm:=E.nid,term:=m.term,lt:=0,ix:=0,rej:=false,tr:=false }] }:=by
  have fin:∀ E₁:El,E₁.last=(1,1)→E₁.nid=E.nid→E₁.out=E.out→(E₁.vote=m.frm∨E₁.vote=0∧E₁.leader=0)→E.settle m=(E₁,true) →
      E.step m={ E₁ with elapsed:=0,vote:=m.frm,out:=E.out++[{ kind:=6,to:=m.frm,frm:=E.nid,term:=m.term,lt:=0,ix:=0,rej:=false,tr:=false }] }:=by
    intro E₁ h1 h2 h3 h4 e
    rw [step_of e]
    unfold El.after
    rw [if_neg (by lia),if_pos (.inl hk)]
    unfold El.answerVote
    have up:E₁.upToDate m.ix m.lt=true:=by unfold El.upToDate; rw [h1,hr.1,hr.2]; rfl
    have cn:E₁.canVote m=true:=by
      unfold El.canVote
      rcases h4 with q | q
      · simp [q]
      · simp [q.1,q.2]
    rw [if_pos (by rw [up,cn]; rfl)]
    dsimp only
    rw [if_pos hk,hk]
    show ({ E₁ with out:=E₁.out++[_],elapsed:=0,vote:=m.frm }:El)=_
    rw [h2,h3]
    rfl
  rcases cv with q | ⟨q,q'⟩
  · refine ⟨E.becomeFollower m.term 0,.inr rfl,fin _ hl rfl rfl (.inr ⟨?_,rfl⟩) ?_⟩
    · show (if E.term=m.term then E.vote else 0)=0
      rw [if_neg (by lia)]
    · unfold El.settle
      rw [if_neg h0,if_pos q]
      unfold El.settleHigher
      rw [if_neg (by rw [lease0 h]; simp),if_neg (by simp_all),if_neg (by lia),if_neg (by rw [hk]; decide)]
  · exact ⟨E,.inl ⟨rfl,q⟩,fin E hl rfl rfl (.inl q') (settle_eq h0 q.symm)⟩
theorem ev18 (hk:m.kind=18) (hj:m.rej=false) (h0:m.term≠0) (ht:E.term≤m.term):E.step m=if E.state=3 then E.polled m else if E.state=0 then E.stepFollower m else E:=by
  have e:E.settle m=(E,true):=by
    by_cases q:E.term < m.term
    · unfold El.settle
      rw [if_neg h0,if_pos q]
      unfold El.settleHigher
      rw [if_neg (by lia),if_neg (by simp_all),if_pos ⟨hk,hj⟩]
    · exact settle_eq h0 (by lia)
  rw [step_of e]
  unfold El.after
  rw [if_neg (by lia),if_neg (by lia)]
  by_cases h3:E.state=3
  · rw [if_neg (by lia),if_neg (by lia),if_pos h3]
    unfold El.stepCandidate
    rw [if_neg (by rw [hk]; decide),if_pos h3,if_pos hk]
  · rw [if_neg h3]
    split
    · rename_i h2; rw [if_neg (by lia)]
    · split
      · rfl
      · unfold El.stepCandidate
        rw [if_neg (by rw [hk]; decide),if_neg h3,if_neg (by simp_all)]
theorem ev6 (hk:m.kind=6) (h0:m.term≠0) (ht:m.term=E.term) (hs:E.state=1∨E.state=2):E.step m=if E.state=1 then E.polled m else E:=by
  rw [step_of (settle_eq h0 ht)]
  unfold El.after
  rw [if_neg (by lia),if_neg (by lia)]
  rcases hs with h | h
  · rw [if_neg (by simp_all),if_neg (by lia),if_pos h]
    unfold El.stepCandidate
    rw [if_neg (by rw [hk]; decide),if_neg (by lia),if_pos hk]
  · rw [if_pos h,if_neg (by lia)]
end
end Mine
end
section
open PySem
namespace Mine
noncomputable def wt (m:Msg):Nat:=if m.kind=17∨m.kind=5 then 2 else 1
noncomputable def sumW:List Msg→Nat
  | []=>0
  | m::l=>wt m + sumW l
theorem sumW_cons {m:Msg} {l:List Msg}:sumW (m::l)=wt m + sumW l:=rfl
theorem sumW_append (a b:List Msg):sumW (a++b)=sumW a + sumW b:=by
  induction a with
  | nil=>exact (Nat.zero_add _).symm
  | cons m a ih=>rw [List.cons_append,sumW_cons,sumW_cons,ih,Nat.add_assoc]
theorem sumW_erase {l:List Msg} {j:Nat} {m:Msg} (h:l[j]?=some m):sumW (l.eraseIdx j) + wt m=sumW l:=by
  induction l generalizing j with
  | nil=>simp at h
  | cons a l ih =>
    rcases j with _ | j
    · cases h; exact Nat.add_comm _ _
    · exact (Nat.add_assoc _ _ _).trans (congrArg (wt a + ·) (ih h))
theorem mem_erase {l:List Msg} {j:Nat} {m x:Msg} (h:l[j]?=some m) (hx:x∈l):x=m∨x∈l.eraseIdx j:=by
  induction l generalizing j with
  | nil=>cases hx
  | cons a l ih =>
    rcases j with _ | j
    · cases h; exact List.mem_cons.mp hx
    · rcases List.mem_cons.mp hx with e | e
      · exact .inr (e▸List.mem_cons_self)
      · exact (ih h e).imp id (List.mem_cons_of_mem a)
theorem len_sumW:∀ l:List Msg,l.length≤sumW l
  | []=>Nat.le_refl _
  | m::l=>by
    have:=len_sumW l
    have:1≤wt m:=by unfold wt; split<;>decide
    rw [List.length_cons,sumW_cons]; lia
inductive CovI (vs:List (Int×Bool)) (l:List Msg) (a b o:Int):Prop
  | yes:vget vs o=some true→CovI vs l a b o
  | ask (m:Msg):m∈l→m.kind=a→m.to=o→CovI vs l a b o
  | ans (m:Msg):m∈l→m.kind=b→m.frm=o→CovI vs l a b o
noncomputable def SelfI (n:Int) (vs:List (Int×Bool)):Prop:=vget vs n=some true∧∀ v b,vget vs v=some b→b=true
theorem selfI_one {n:Int}:SelfI n [(n,true)]:=by
  refine ⟨by rw [vget_cons,if_pos rfl],fun v b h=>?_⟩
  rw [vget_cons] at h
  split at h
  · exact (Option.some.inj h).symm
  · cases h
theorem sumW_map {f:Int→Msg} (hf:∀ v,wt (f v)=2) (l:List Int):sumW (l.map f)=2 * l.length:=by
  induction l with
  | nil=>rfl
  | cons a l ih=>rw [List.map_cons,sumW_cons,List.length_cons,ih,hf]; lia
section
variable {c:Wc} {n:Int} {L:El} {g:Int→Int→Int} {m:Msg}
theorem all_true_not_lost {a b:List Int} {vs:List (Int×Bool)} (h:∀ v b,vget vs v=some b→b=true):jointP a b vs≠2:=by
  have one:∀ l:List Int,majP l vs≠2:=by
    intro l hl
    rw [majP_lost] at hl
    have:yes vs l + miss vs l=l.length:=by
      clear hl
      unfold yes miss
      induction l with
      | nil=>rfl
      | cons a l ih =>
        rw [List.countP_cons,List.countP_cons,List.length_cons]
        cases hg:vget vs a with
        | none=>simp at ih ⊢; lia
        | some b=>have:=h a b hg; subst this; simp at ih ⊢; lia
    have hne:0 < l.length:=List.length_pos_iff.mpr hl.1
    lia
  rw [Ne,jointP_lost]
  exact fun h=>h.elim (one _) (one _)
theorem all_yes_won (hv:Hv c.hs c.size) {vs:List (Int×Bool)} (h:∀ v∈votersP c.hs c.size,vget vs v=some true):jointP (half0 c.hs) (half1 c.hs) vs=3:=by
  have one:∀ l∈c.hs,majP l vs=3:=by
    intro l hl
    rw [majP_won]
    refine .inr ?_
    have e:yes vs l=l.length:=by
      unfold yes
      rw [List.countP_eq_length]
      intro a ha
      have:=h a ((mem_voters a).mpr ⟨hv.inn l hl a ha,l,hl,ha⟩)
      simpa using this
    have:=List.length_pos_iff.mpr (hv.ne l hl)
    simp_all
  rw [jointP_won]
  rcases hv.shape with ⟨a,e⟩ | ⟨a,b,e⟩<;>rw [e] at one ⊢
  · exact ⟨one a (by simp),rfl⟩
  · exact ⟨one a (by simp),one b (by simp)⟩
end
end Mine
end
section
open PySem
namespace Mine
section
variable {c:Wc} {n:Int} {L E S:El} {g:Int→Int→Int} {m:Msg}
theorem vget_record {E:El} {k:Int} (h:∀ v b,vget E.votes v=some b→b=true):vget (E.record k true).votes k=some true∧(∀ v,vget E.votes v=some true→vget (E.record k true).votes v=some true)∧∀ v b,vget (E.record k true).votes v=some b→b=true:=by
  unfold El.record
  split
  · rename_i hs
    refine ⟨?_,fun v hv=>hv,h⟩
    cases hg:vget E.votes k with
    | none=>rw [hg] at hs; cases hs
    | some b=>rw [h k b hg]
  · rename_i hs
    show vget ((k,true)::E.votes) k=some true∧(∀ v,vget E.votes v=some true→vget ((k,true)::E.votes) v=some true)∧∀ v b,vget ((k,true)::E.votes) v=some b→b=true
    refine ⟨by rw [vget_cons,if_pos rfl],fun v hv=>?_,fun v b hb=>?_⟩
    · rw [vget_cons]
      split
      · rfl
      · exact hv
    · rw [vget_cons] at hb
      split at hb
      · exact (Option.some.inj hb).symm
      · exact h v b hb
theorem wt_two (h:m.kind=17∨m.kind=5):wt m=2:=if_pos h
theorem wt_pos (m:Msg):0 + 1≤wt m:=by
  unfold wt; split<;>decide
theorem one_out {r:Msg} (o:E.out=[]) (hE:S.out=E.out++[r]):S.out=[r]:=by rw [hE,o]; rfl
variable {hs:List (List Int)} {z:Nat} {ck:Bool}
end
end Mine
end
section
open PySem
namespace Mine
section
variable {T:TL} {elt:X} {g:Hp→Option (List V)} {c:Option X} {ρ:En} {G:Gh} {Q:V→Hp→Prop}
theorem take_filter_map {vs:List V} (p:V→Bool) (f:V→V) {k:Nat} {v:V} (h:vs[k]?=some v):((vs.take (k + 1)).filter p).map f=((vs.take k).filter p).map f++(if p v=true then [f v] else []):=by
  rw [List.take_add_one,h,Option.toList_some,List.filter_append,List.map_append]
  congr 1
  by_cases hp:p v=true<;>simp [hp]
theorem CompG.grow (hG:G.t.length=G.h.length) (vs:List V) (p:V→Bool) (f:V→V) (hl:vs.length < lim) (hg:∀ D,Grow G D→g D.h=some vs)
    (hc:∀ v∈vs,∀ D,Grow G D→WC T c (ρ++[some v]) D.h fun t H₁=>t=p v∧∃ D₁:Gh,H₁=D₁.h∧Grow D D₁)
    (he:∀ v∈vs,p v=true→∀ D,Grow G D→WX T elt (ρ++[some v]) D.h fun u H₁=>u=f v∧∃ D₁:Gh,H₁=D₁.h∧Grow D D₁)
    (q:∀ D,Grow G D→At D 0 G.h.length (.list ((vs.filter p).map f))→Q (.ref G.h.length) D.h):CompG T elt g c ρ G.h Q:=by
  have len:∀ k,(((vs.take k).filter p).map f).length≤vs.length:=fun k=>by
    rw [List.length_map]
    have:=List.length_filter_le p (vs.take k)
    rw [List.length_take] at this
    lia
  refine ⟨vs,fun k out H'=>∃ D:Gh,H'=D.h∧Grow G D∧At D 0 G.h.length (.list out)∧out=((vs.take k).filter p).map f,hl,?_,?_,?_,?_⟩
  · rintro k out H ⟨D,rfl,x,_⟩; exact hg D x
  · exact ⟨G.new 0 (.list []),rfl,Ext.new hG 0 _,At.fresh hG 0 _,by simp⟩
  · rintro k v out H₂ hv ⟨D,rfl,x,a,rfl⟩
    have hm:=List.mem_of_getElem? hv
    obtain ⟨n,t,H₁,e,rfl,D₁,rfl,y⟩:=hc v hm D x
    have a1:=y.keep _ _ _ id a
    refine ⟨n,_,_,e,fun hf=>⟨D₁,rfl,x.trans y,a1,?_⟩,fun ht=>?_⟩
    · rw [take_filter_map p f hv,hf,if_neg (by decide),List.append_nil]
    · refine (he v hm ht D₁ (x.trans y)).mono ?_
      rintro u H₃ ⟨rfl,D₂,rfl,z⟩
      have a2:=z.keep _ _ _ id a1
      refine ⟨a2.2,by have:=len k; exact Nat.lt_of_le_of_lt (by assumption) (by assumption),D₂.put G.h.length (.list (((vs.take k).filter p).map f++[f v])),rfl,grow_put ((x.trans y).trans z) (Nat.le_refl _) _,a2.put,?_⟩
      rw [take_filter_map p f hv,ht,if_pos rfl]
  · rintro out H' ⟨D,rfl,x,a,rfl⟩
    rw [List.take_length] at a
    exact q D x a
theorem CompG.each (hG:G.t.length=G.h.length) (vs us:List V) (hlen:us.length=vs.length) (hl:vs.length < lim) (hg:∀ D,Grow G D→g D.h=some vs)
    (he:∀ (k:Nat) (v u:V),vs[k]?=some v→us[k]?=some u→∀ D,Grow G D→WX T elt (ρ++[some v]) D.h fun u' H₁=>u'=u∧∃ D₁:Gh,H₁=D₁.h∧Grow D D₁)
    (q:∀ D,Grow G D→At D 0 G.h.length (.list us)→Q (.ref G.h.length) D.h):CompG T elt g none ρ G.h Q:=by
  refine ⟨vs,fun k out H'=>∃ D:Gh,H'=D.h∧Grow G D∧At D 0 G.h.length (.list out)∧out=us.take k,hl,?_,?_,?_,?_⟩
  · rintro k out H ⟨D,rfl,x,_⟩; exact hg D x
  · exact ⟨G.new 0 (.list []),rfl,Ext.new hG 0 _,At.fresh hG 0 _,by simp⟩
  · rintro k v out H₂ hv ⟨D,rfl,x,a,rfl⟩
    have hk:k < us.length:=by rw [hlen]; exact (List.getElem?_eq_some_iff.mp hv).1
    refine WC.none ⟨fun h=>(by cases h),fun _=>?_⟩
    refine (he k v _ hv (List.getElem?_eq_getElem hk) D x).mono ?_
    rintro u H₃ ⟨rfl,D₂,rfl,z⟩
    have a2:=z.keep _ _ _ id a
    refine ⟨a2.2,by rw [List.length_take]; lia,D₂.put G.h.length (.list (us.take k++[us[k]])),rfl,grow_put (x.trans z) (Nat.le_refl _) _,a2.put,?_⟩
    rw [List.take_add_one,List.getElem?_eq_getElem hk]; rfl
  · rintro out H' ⟨D,rfl,x,a,rfl⟩
    rw [← hlen,List.take_length] at a
    exact q D x a
theorem WC.px {c:X} {ρ:En} {D:Gh} {b:Bool} (h:D.t.length=D.h.length) (p:PX ρ D.h c (.bool b)):WC T (Option.some c) ρ D.h fun t H₁=>t=b∧∃ D₁:Gh,H₁=D₁.h∧Grow D D₁ :=
  WC.some (WX.p p ⟨b,rfl,rfl,D,rfl,.refl h⟩)
theorem WX.px {e:X} {ρ:En} {D:Gh} {u:V} (h:D.t.length=D.h.length) (p:PX ρ D.h e u):WX T e ρ D.h fun u' H₁=>u'=u∧∃ D₁:Gh,H₁=D₁.h∧Grow D D₁ :=
  WX.p p ⟨rfl,D,rfl,.refl h⟩
end
theorem small_of {i:Int} (h:-1000000≤i∧i≤1000000):small i=true:=by
  unfold small; simp; omega
theorem range_upTo (n:Nat):rangeInts 1 ((n:Int) + 1)=(upTo n).map .int:=by
  unfold rangeInts upTo
  rw [show ((n:Int) + 1 - 1).toNat=n by simp,List.map_map]
  rfl
theorem filter_ints (p:V→Bool) (q:Int→Bool) (is:List Int) (h:∀ i∈is,p (.int i)=q i):((is.map V.int).filter p).map (fun v=>v)=(is.filter q).map V.int:=by
  rw [List.map_id']
  induction is with
  | nil=>rfl
  | cons i is ih =>
    have h1:=h i (List.mem_cons_self ..)
    have h2:=ih fun k hk=>h k (List.mem_cons_of_mem _ hk)
    rw [List.map_cons,List.filter_cons,List.filter_cons,h1,h2]
    split<;>rfl
noncomputable def intOf:V→Int
  | .int i=>i
  | _=>0
theorem CompG.sift {T:TL} {c:X} {ρ:En} {G:Gh} {Q:V→Hp→Prop} {n:Nat} {i:Nat} (hG:G.t.length=G.h.length) (hn:n < 1000) (hi:ρ.length=i) (q:Int→Bool)
    (hc:∀ j,1≤j∧j≤(n:Int)→∀ D,Grow G D→WC T (some c) (ρ++[some (.int j)]) D.h fun t H₁=>t=q j∧∃ D₁:Gh,H₁=D₁.h∧Grow D D₁)
    (k:∀ D,Grow G D→At D 0 G.h.length (zs ((upTo n).filter q))→Q (.ref G.h.length) D.h):CompG T (.loc i) (fun _=>some (rangeInts 1 ((n:Int) + 1))) (some c) ρ G.h Q:=by
  rw [range_upTo]
  refine CompG.grow hG ((upTo n).map .int) (fun v=>q (intOf v)) (fun v=>v) ?_ (fun _ _=>rfl) ?_ ?_ ?_
  · rw [List.length_map,upTo,List.length_map,List.length_range]; simp only [lim]; exact Nat.le_trans (by assumption) (by decide)
  · intro v hv D x
    obtain ⟨j,hj,rfl⟩:=List.mem_map.mp hv
    exact hc j ((mem_upTo n j).mp hj) D x
  · intro v _ _ D x
    exact WX.px x.len (PX.loc (by rw [List.getElem?_append_right (by simp_all),hi]; simp))
  · intro D x a
    rw [filter_ints _ q _ fun _ _=>rfl] at a
    exact k D x a
end Mine
end
section
open PySem
namespace Mine.L03
variable {dp:Nat}
section
variable {H:Hp}
theorem cmp_neg {op op':CmpOp} {a b:V} {t:Bool} (n:cmpB op' a b H=(cmpB op a b H).map not) (h:cmpV op a b H=some (.bool t)):cmpV op' a b H=some (.bool (!t)):=by
  obtain ⟨x,hx,e⟩:=Option.map_eq_some_iff.mp h
  unfold cmpV
  rw [n,hx,V.bool.inj e]; rfl
theorem dOf_at {r:Nat} {vs:List V} {ds:List PyData} (h:H[r]?=some (.list vs)) (e:toDs (toD 2) vs=some ds):dOf H (.ref r)=some (.list ds):=by
  show (listAt r H).bind _=_
  rw [list_at h,Option.bind_some,e]; rfl
theorem eq_of {a b:V} {x y:PyData} (h0:bytesO a=none) (h1:dOf H a=some x) (h2:dOf H b=some y):eqV H a b=some (PyData.eqv x y):=by
  unfold eqV; rw [h0,h1,h2]; rfl
theorem bin_cond {g:Bool} {z:Int} (hg:g=true):((cond g (some z) none).map fun z=>(V.int z,H))=some (.int z,H):=by subst hg; rfl
end
inductive isHv (G:Gh) (r:Nat) (hs:List (List Int)):Prop
  | mk (rs:List Nat):At G 0 r (.list (rs.map .ref))→All2 (fun r l=>At G 0 r (zs l)) rs hs→isHv G r hs
theorem isHv.ext {S:Nat→Prop} {G D:Gh} {r:Nat} {hs:List (List Int)} (x:Ext S G D) (n:¬ S 0) (h:isHv G r hs):isHv D r hs :=
  let ⟨rs,a,b⟩:=h; ⟨rs,x.keep _ _ _ n a,b.mono fun _ _=>x.keep _ _ _ n⟩
structure Sz (size:Nat) (hs:List (List Int)):Prop where
  lt:size < 10
  hv:Hv hs size
theorem SI_len {l:List Int} {a b:Int} (h:SI l) (k:∀ x∈l,a < x∧x≤b):(l.length:Int)≤max 0 (b - a):=by
  induction l generalizing a with
  | nil=>simp; omega
  | cons c l ih =>
    have h1:=k c (List.mem_cons_self ..)
    have h2:=ih h.2 (a:=c) fun x hx=>⟨h.1 x hx,(k x (List.mem_cons_of_mem _ hx)).2⟩
    rw [List.length_cons]; lia
theorem Sz.half {size:Nat} {hs:List (List Int)} (z:Sz size hs) {h:List Int} (hh:h∈hs):h.length < 30:=by
  have:=SI_len (z.hv.si h hh) (a:=0) (b:=size) fun x hx=>by have:=z.hv.inn h hh x hx; assumption
  have:=z.lt
  omega
theorem Sz.len {size:Nat} {hs:List (List Int)} (z:Sz size hs):hs.length≤2:=by
  rcases z.hv.shape with ⟨a,rfl⟩ | ⟨a,b,rfl⟩<;>simp
noncomputable def idsP (drawn:Int) (size:Nat):List Int:=(upTo size).filter fun j=>decide (drawn / 2 ^ (j - 1).toNat % 2=1)
theorem pow_ok {H:Hp} {j:Int} (h:0≤j∧j≤29):binV .Pow (.int 2) (.int j) H=some (.int (2 ^ j.toNat),H):=by
  exact bin_cond (z:=2 ^ j.toNat) (g:=small 2 && (decide (0≤j) && decide (j≤62))) (by simp [small]; lia)
theorem pow_small {j:Int} (h:0≤j∧j≤29):(0:Int) < 2 ^ j.toNat∧(2:Int) ^ j.toNat < 1073741824:=by
  have h1:j.toNat < 30:=by lia
  generalize j.toNat=k at h1
  have:∀ k:Nat,k < 30→(0:Int) < 2 ^ k∧(2:Int) ^ k < 1073741824:=by decide
  exact this k h1
theorem toBools_map (bs:List Bool):toBools (bs.map .bool)=some bs:=by
  induction bs with
  | nil=>rfl
  | cons b bs ih=>exact congrArg (Option.map (b::·)) ih
theorem wx_inhalf {T:TL} {ρ:En} {G D:Gh} {aH i n:Nat} {hs:List (List Int)} {j:Int} {x:X} (x0:Grow G D) (hh:isHv G aH hs) (l2:hs.length < 1000) (p:∀ D,Grow G D→PX ρ D.h x (.ref aH)) (hj:ρ[i]?=some (some (.int j))) (hn:ρ.length=n) (hi:i < n) :
    WX T (.any (.comp (.cmp .In (.loc i) (.loc n)) false [x] none)) ρ D.h fun u H₁=>u=.bool (hs.any fun h=>decide (j∈h))∧∃ D₁:Gh,H₁=D₁.h∧Grow D D₁:=by
  obtain ⟨rs,a,al⟩:=hh
  have a':=x0.keep _ _ _ id a
  refine WX.any (WX.compList (WX.p (p D x0) ⟨aH,_,rfl,a'.2,CompG.each x0.len (rs.map .ref) (hs.map fun h=>.bool (decide (j∈h))) (by simp [al.length]) (by rw [List.length_map,al.length]; simp only [lim]; exact Nat.le_trans (by assumption) (by decide)) (fun D' y=>look_at (y.keep _ _ _ id a').2) ?_ ?_⟩))
  · intro k v u hv hu D' y
    rw [List.getElem?_map] at hv hu
    obtain ⟨r,hr,rfl⟩:=Option.map_eq_some_iff.mp hv
    obtain ⟨h,hh,rfl⟩:=Option.map_eq_some_iff.mp hu
    obtain ⟨h',hh',at'⟩:=al.get' hr
    have e:h=h':=Option.some.inj (hh.symm.trans hh')
    subst e
    refine WX.px y.len (PX.cmp (PX.loc ?_) (PX.loc ?_) (cmp_in_list ((x0.trans y).keep _ _ _ id at').2))
    · rw [List.getElem?_append_left (by simp_all)]; exact hj
    · rw [List.getElem?_append_right (by lia),hn]; simp
  · intro D' y b
    refine ⟨_,hs.map fun h=>decide (j∈h),listOf_at b.2,?_,?_,D',rfl,y⟩
    · have:(hs.map fun h=>V.bool (decide (j∈h)))=(hs.map fun h=>decide (j∈h)).map .bool:=by rw [List.map_map]; rfl
      rw [this,toBools_map]
    · rw [List.any_map]; rfl
end Mine.L03
end
section
open PySem
namespace Mine.L03
variable {dp:Nat}
section
variable {G:Gh} {aH r:Nat} {hs:List (List Int)} {size:Nat} {n:Int} {Q:V→Hp→Prop} {m:Msg} {mr:Nat}
end
end Mine.L03
end
section
open PySem
namespace Mine.L03
variable {dp:Nat}
theorem nodup_le (n:Nat) (l:List Int) (nd:l.Nodup) (h:∀ x∈l,1≤x∧x≤(n:Int)):l.length≤n:=by
  have:=nodup_length nd (m:=upTo n) fun x hx=>(mem_upTo n x).mpr (h x hx)
  rwa [upTo,List.length_map,List.length_range] at this
theorem conf_small {hs:List (List Int)} {size:Nat} (z:Sz size hs):(confOf hs size).Small:=by
  have zl:=z.lt
  have half:∀ h∈hs,h.length < 10:=fun h hh=>by
    have:=SI_len (z.hv.si h hh) (a:=0) (b:=size) fun x hx=>by have:=z.hv.inn h hh x hx; assumption
    omega
  have l3:(confOf hs size).learners.length≤size:=by
    have:=List.length_filter_le (fun j=>decide (j∉half0 hs) && decide (j∉half1 hs)) (upTo size)
    rw [upTo,List.length_map,List.length_range] at this
    exact this
  have l1:(half0 hs).length < 10:=by
    rcases z.hv.shape with ⟨a,rfl⟩ | ⟨a,b,rfl⟩<;>exact half a (by simp)
  have l2:(half1 hs).length < 10:=by
    rcases z.hv.shape with ⟨a,rfl⟩ | ⟨a,b,rfl⟩
    · show 0 < 10; decide
    · exact half b (by simp)
  refine ⟨?_⟩
  show (half0 hs).length + (half1 hs).length + (confOf hs size).learners.length < 64
  lia
theorem isHv.at {G:Gh} {aH:Nat} {hs:List (List Int)} (h:isHv G aH hs) {k:Nat} {l:List Int} (e:hs[k]?=some l):∃ r,At G 0 r (zs l)∧subV (.ref aH) (.int k) G.h=some (.ref r)∨¬ k < 1000:=by
  by_cases hk:k < 1000
  · obtain ⟨rs,a,al⟩:=h
    obtain ⟨r,hr,at'⟩:=al.get e
    refine ⟨r,.inl ⟨at',?_⟩⟩
    exact sub_nat a.2 (by exact Int.natCast_nonneg _) (small_of (by lia)) (by rw [Int.toNat_natCast,List.getElem?_map,hr]; rfl)
  · exact ⟨0,.inr hk⟩
theorem rest_eq (hs:List (List Int)) (size:Nat):(confOf hs size).learners=(upTo size).filter fun j=>decide (j∉half0 hs) && decide (j∉half1 hs):=rfl
end Mine.L03
end
section
open PySem
namespace Mine.L03
variable {dp:Nat}
inductive HasMem (G:Gh) (es:List Nat) (i:Nat) (E:El):Prop
  | mk (e:Nat) (A:Adr):es[i]?=some e→Mem (i + 1) A e G E→HasMem G es i E
section
variable {c:Wc} {G:Gh} {Q:V→Hp→Prop}
theorem St.flush {j e:Nat} {B:Gh} {A:Adr} {E:El} (s:St j e B A G E):St j e B { A with q:=G.h.length,qs:=[] } ((G.new j (.list [])).put e (.inst 4 (efs { A with q:=G.h.length,qs:=[] } E.flush))) E.flush ∧
    At ((G.new j (.list [])).put e (.inst 4 (efs { A with q:=G.h.length,qs:=[] } E.flush))) j A.q (.list (A.qs.map .ref))∧All2 (isMsg ((G.new j (.list [])).put e (.inst 4 (efs { A with q:=G.h.length,qs:=[] } E.flush)))) A.qs E.out:=by
  have s':=s.new j (.list [])
  have m:=s'.mem
  have j0:=s.j0
  have ne {q τ:Nat} {o p:O} (b:At (G.new j (.list [])) τ q o) (h:j≠τ∨O.inst 4 (efs A E)≠o):At ((G.new j (.list [])).put e p) τ q o:=b.put_ne (m.e.ne b h)
  have x {p:O}:Ext (·=j) (G.new j (.list [])) ((G.new j (.list [])).put e p):=.put m.len m.e rfl
  refine ⟨⟨s.j0,⟨x.len,m.e.put,ne m.t (.inr (by simp)),ne m.v (.inr (by simp)),ne (At.fresh s.mem.len j (.list [])) (.inr (by simp)),.nil,m.c.ext x fun e=>j0 e.symm⟩,s'.ext.trans x⟩,ne m.q (.inr (by simp)),m.m.mono fun _ _=>isMsg.ext x fun e=>j0 e.symm⟩
theorem sub_at {H:Hp} {r:Nat} {vs:List V} {n:Int} {v:V} (a:H[r]?=some (.list vs)) (h:1≤n∧n < 100) (e:vs[(n - 1).toNat]?=some v):subV (.ref r) (.int (n - 1)) H=some v:=sub_nat a (by simp_all) (small_of (by lia)) e
theorem setitem_at {H:Hp} {r:Nat} {vs:List V} {n:Int} {v:V} (a:H[r]?=some (.list vs)) (h:1≤n∧n < 100) (e:(n - 1).toNat < vs.length):setItemV (.ref r) (.int (n - 1)) v H=some (H.set r (.list (vs.set (n - 1).toNat v))):=set_nat a (by lia) (small_of (by lia)) e
theorem cmp_ne3 {a b d x y u:Int} {H:Hp}:cmpV .NotEq (.tup [.int a,.int b,.int d]) (.tup [.int x,.int y,.int u]) H=some (.bool (!(decide (a=x) && (decide (b=y) && decide (d=u))))):=by
  refine Eq.trans (b:=some (V.bool (!(PyData.eqv (.tuple [.int a,.int b,.int d]) (.tuple [.int x,.int y,.int u]))))) rfl ?_
  simp only [PyData.eqv,PyData.eqvAll,Bool.and_true]
  rfl
theorem all_rows {G:Gh}:∀ {qs:List Nat} {ms:List Msg},All2 (isMsg G) qs ms→∀ (k:Nat) (v:V),(qs.map V.ref)[k]?=some v→∃ r m,v=.ref r∧isMsg G r m∧ms[k]?=some m:=by
  intro qs ms h k v hv
  rw [List.getElem?_map] at hv
  obtain ⟨r,hr,rfl⟩:=Option.map_eq_some_iff.mp hv
  obtain ⟨m,hm,im⟩:=h.get' hr
  exact ⟨r,m,rfl,im,hm⟩
end
end Mine.L03
end
section
open PySem
namespace Mine
structure C1 where
  size:Nat
  bits:Int
  ha:List (List Int)
  hb:List (List Int)
noncomputable def C1.pre (c:C1):Bool:=decide (c.bits % 2=1)
noncomputable def C1.check (c:C1):Bool:=decide (c.bits / 2 % 2=1)
noncomputable def C1.hs (c:C1) (k:Int):List (List Int):=if k=0 then c.ha else c.hb
inductive Meets (X Y:List (List Int)):Prop
  | mk (a b:List Int):a∈X→b∈Y→(∀ p q:Int→Bool,a.length < 2 * a.countP p→b.length < 2 * b.countP q→∃ x,p x=true∧q x=true)→Meets X Y
theorem Meets.symm {X Y:List (List Int)} (m:Meets X Y):Meets Y X:=by
  obtain ⟨a,b,ha,hb,h⟩:=m
  refine ⟨b,a,hb,ha,fun p q hp hq=>?_⟩
  obtain ⟨x,h1,h2⟩:=h q p hq hp
  exact ⟨x,h2,h1⟩
theorem Meets.half {X Y:List (List Int)} {a:List Int} (ha:a∈X) (hb:a∈Y):Meets X Y :=
  ⟨a,a,ha,hb,fun p q hp hq=>by obtain ⟨x,_,h1,h2⟩:=meet hp hq; exact ⟨x,h1,h2⟩⟩
theorem Meets.near {X Y:List (List Int)} {a b:List Int} (ha:a∈X) (hb:b∈Y) (l:b.length=a.length + 1) (sub:∀ q:Int→Bool,b.countP q≤a.countP q + 1):Meets X Y:=by
  refine ⟨a,b,ha,hb,fun p q hp hq=>?_⟩
  have:=sub q
  have sum:a.length < a.countP p + a.countP q:=by (first | lia | omega +splitDisjunctions)
  clear l sub this hp hq ha
  induction a with
  | nil=>exact absurd sum (Nat.lt_irrefl 0)
  | cons x l ih =>
    rw [List.countP_cons,List.countP_cons,List.length_cons] at sum
    by_cases h:p x=true∧q x=true
    · exact ⟨x,h⟩
    · refine ih ?_
      by_cases h1:p x=true
      · rw [if_pos h1,if_neg fun h2=>h ⟨h1,h2⟩] at sum; (first | lia | omega +splitDisjunctions)
      · rw [if_neg h1] at sum; split at sum<;>(first | lia | omega +splitDisjunctions)
theorem Led.same {X Y:List (List Int)} {g:Int→Int→Int} {t a b:Int} (m:Meets X Y) (x:Led X g t a) (y:Led Y g t b):a=b:=by
  obtain ⟨h,k,hh,hk,f⟩:=m
  obtain ⟨v,h1,h2⟩:=f _ _ (x h hh) (y k hk)
  exact (of_decide_eq_true h1).symm.trans (of_decide_eq_true h2)
structure C1.Good (c:C1):Prop where
  size:3≤c.size∧c.size≤5
  bits:0≤c.bits∧c.bits < 4
  va:Hv c.ha c.size
  vb:Hv c.hb c.size
  ab:Meets c.ha c.hb
section
variable {c:C1} {g:Int→Int→Int} {E E' E₁:El} {m:Msg} {i:Nat}
theorem C1.Good.hv (z:c.Good) (k:Int):Hv (c.hs k) c.size:=by
  unfold C1.hs; split
  · exact z.va
  · exact z.vb
theorem C1.Good.meets (z:c.Good) (k l:Int):Meets (c.hs k) (c.hs l):=by
  have self {X:List (List Int)} (h:Hv X c.size):Meets X X:=by
    rcases h.shape with ⟨a,e⟩ | ⟨a,b,e⟩<;>rw [e]<;>exact .half (a:=a) List.mem_cons_self List.mem_cons_self
  unfold C1.hs
  split<;>split
  · exact self z.va
  · exact z.ab
  · exact z.ab.symm
  · exact self z.vb
structure VK (size:Nat) (vs:List (Int×Bool)):Prop where
  nodup:(vs.map (·.1)).Nodup
  keys:∀ p∈vs,1≤p.1∧p.1≤size
theorem VK.nil {size:Nat}:VK size []:=⟨List.nodup_nil,fun p h=>(List.not_mem_nil h).elim⟩
theorem VK.record {size:Nat} {n:Int} {b:Bool} (v:VK size E.votes) (h:1≤n∧n≤size):VK size (E.record n b).votes:=by
  unfold El.record
  split
  · exact v
  · rename_i q
    refine ⟨List.nodup_cons.mpr ⟨fun z=>q ?_,v.nodup⟩,fun p hp=>?_⟩
    · obtain ⟨⟨x,y⟩,hx,rfl⟩:=List.mem_map.mp z
      rw [(vget_mem v.nodup x y).mp hx]; rfl
    · rcases List.mem_cons.mp hp with rfl | z
      · exact h
      · exact v.keys p z
noncomputable def StOk (E:El):Prop:=E.state=0∨E.state=1∨E.state=2∨E.state=3
structure VS (size:Nat) (E:El):Prop where
  v:VK size E.votes
  st:StOk E
theorem VS.foll {size:Nat} {t l:Int}:VS size (E.becomeFollower t l):=⟨VK.nil,.inl rfl⟩
theorem VS.lead {size:Nat}:VS size E.becomeLeader:=⟨VK.nil,.inr (.inr (.inl rfl))⟩
theorem VS.campE {size:Nat} (hn:1≤E.nid∧E.nid≤size) (k:Int):VS size (E.campaignE k):=by
  unfold El.campaignE
  dsimp only
  split
  · exact .lead
  · exact ⟨VK.record (E:=E.becomeCandidate) VK.nil hn,.inr (.inl rfl)⟩
theorem VS.camp {size:Nat} (hn:1≤E.nid∧E.nid≤size) (k:Int):VS size (E.campaign k):=by
  unfold El.campaign
  split
  · unfold El.campaignP
    dsimp only
    split
    · exact .campE hn 2
    · exact ⟨VK.record (E:=E.becomePre) VK.nil hn,.inr (.inr (.inr rfl))⟩
  · exact .campE hn k
theorem VS.send {size:Nat} (s:VS size E) {r:Msg}:VS size (E.send r):=⟨s.v,s.st⟩
theorem VS.low {size:Nat} (s:VS size E) (l:E.low m E₁):VS size E₁:=by
  rcases l with ⟨h,_⟩ | ⟨h,_⟩ | ⟨⟨_,h,_⟩,_⟩<;>rw [h]
  · exact s
  · exact s
  · exact .foll
theorem VS.form {size:Nat} (f:Form E m E') (s:VS size E) (hn:1≤E.nid∧E.nid≤size) (hf:m.kind=18∨m.kind=6→1≤m.frm∧m.frm≤size):VS size E':=by
  cases f with
  | same=>exact s
  | lower _ _ =>
    unfold El.answerLower
    split
    · exact s.send
    · split
      · exact s.send
      · exact s
  | stay E₁ l=>exact s.low l
  | camp E₁ k l _ _ _=>exact .camp (low_nid l▸hn) k
  | vote E₁ l _ _ _ _ =>
    have s1:=s.low l
    unfold El.answerVote
    split
    · dsimp only
      split
      · exact ⟨s1.v,s1.st⟩
      · exact ⟨s1.v,s1.st⟩
    · exact s1.send
  | heard E₁ l _ _=>have s1:=s.low l; exact ⟨s1.v,s1.st⟩
  | yield _ _ _=>exact .foll
  | polled hs =>
    have hfr:=hf (by rcases hs with h | h; exact .inl h.2; exact .inr h.2.1)
    have s1:VS size (E.record m.frm (!m.rej)):=⟨s.v.record hfr,by obtain ⟨_,r,_⟩:=rec_facts (E:=E) (n:=m.frm) (b:=!m.rej); unfold StOk; rw [r]; exact s.st⟩
    have nid:(E.record m.frm (!m.rej)).nid=E.nid:=(rec_facts (E:=E)).1.1
    unfold El.polled
    dsimp only
    split
    · unfold El.won
      split
      · exact .campE (nid▸hn) 2
      · exact .lead
    · split
      · exact .foll
      · exact s1
structure Ok1 (c:C1) (k:Int) (E:El):Prop where
  nid:1≤E.nid∧E.nid≤c.size
  conf:E.conf=confOf (c.hs k) c.size
  check:E.check=c.check
  pre:E.pre=c.pre
  last:E.last=(1,1)
  term:1≤E.term
  out:E.out=[]
  vs:VS c.size E
structure Msg1 (c:C1) (m:Msg):Prop where
  kind:m.kind=4∧(c.pre=true∨c.check=true)∨m.kind=5∨m.kind=6∨m.kind=8∨m.kind=14∨(m.kind=17∨m.kind=18)∧c.pre=true
  term:1≤m.term
  frm:1≤m.frm∧m.frm≤c.size
  to:1≤m.to∧m.to≤c.size
theorem Msg1.kinds (h:Msg1 c m):m.kind=0∨m.kind=3∨m.kind=4∨m.kind=5∨m.kind=6∨m.kind=8∨m.kind=14∨m.kind=17∨m.kind=18:=by
  have:=h.kind
  (first | lia | omega +splitDisjunctions)
end
end Mine
end
section
open PySem
namespace Mine
structure W1 where
  mem:List El
  kn:List Int
  ly:List Msg
  left:Int
  led:List (Int×Int)
structure Good1 (c:C1) (g:Int→Int→Int) (W:W1):Prop where
  lenM:W.mem.length=c.size
  lenK:W.kn.length=c.size
  kn:∀ k∈W.kn,k=0∨k=1
  ok:∀ (i:Nat) (E:El) (k:Int),W.mem[i]?=some E→W.kn[i]?=some k→Ok1 c k E∧E.nid=(i:Int) + 1
  msg:∀ m∈W.ly,Msg1 c m
  s1:∀ (i:Nat) (E:El),W.mem[i]?=some E→Mine1 g E∧Cand g E∧(E.state=2→W.led.lookup E.term=some E.nid)
  s2:∀ m∈W.ly,m.kind=6→m.rej=false→g m.term m.frm=m.to
  ld:∀ t n,W.led.lookup t=some n→n≠0∧∃ k,Led (c.hs k) g t n
noncomputable def ledP (led:List (Int×Int)) (E:El):List (Int×Int):=if E.state=2∧led.lookup E.term=none then (E.term,E.nid)::led else led
theorem lookup_cons {a b t:Int} {l:List (Int×Int)}:((a,b)::l).lookup t=if t=a then some b else l.lookup t:=by
  rw [List.lookup_cons]
  by_cases h:t=a
  · rw [if_pos h,beq_iff_eq.mpr h]
  · rw [if_neg h,beq_eq_false_iff_ne.mpr h]
section
variable {c:C1} {g:Int→Int→Int} {W:W1} {i:Nat} {E E':El} {k:Int} {m:Msg}
theorem Good1.at (G:Good1 c g W) {n:Int} (h:1≤n∧n≤c.size):∃ E k,W.mem[(n - 1).toNat]?=some E∧W.kn[(n - 1).toNat]?=some k∧E.nid=n:=by
  have h1:(n - 1).toNat < W.mem.length:=by rw [G.lenM]; (first | lia | omega +splitDisjunctions)
  have h2:(n - 1).toNat < W.kn.length:=by rw [G.lenK]; (first | lia | omega +splitDisjunctions)
  refine ⟨_,_,List.getElem?_eq_getElem h1,List.getElem?_eq_getElem h2,?_⟩
  have:=(G.ok _ _ _ (List.getElem?_eq_getElem h1) (List.getElem?_eq_getElem h2)).2
  (first | lia | omega +splitDisjunctions)
theorem Good1.lead (z:c.Good) (G:Good1 c g W) (hE:W.mem[i]?=some E) (hk:W.kn[i]?=some k) (tr:Trg g E E' E'.out) (h2:E'.state=2) :
    (∀ n,W.led.lookup E'.term=some n→n=E.nid)∧(W.led.lookup E'.term=none→Led (c.hs k) (gset g E'.term E.nid E'.vote) E'.term E.nid):=by
  obtain ⟨okE,nidE⟩:=G.ok i E k hE hk
  obtain ⟨m1,cd,ld⟩:=G.s1 i E hE
  have le:=gset_le m1 tr
  have nid:=okE.nid
  have hv:=z.hv k
  rcases tr.won h2 with ⟨a,b⟩ | ⟨a,b⟩
  · have e:=ld a
    rw [← b] at e
    exact ⟨fun n hn=>Option.some.inj (hn.symm.trans e),fun hn=>nS (hn.symm.trans e)⟩
  · have L:Led (c.hs k) (gset g E'.term E.nid E'.vote) E'.term E.nid:=by
      refine wonBy_led le (by (first | lia | omega +splitDisjunctions)) ?_ b fun h hh=>⟨hv.ne h hh,?_⟩
      · have q:=(mine_set m1 tr).1
        rw [tr.nid] at q
        rw [q]; exact a
      · rw [okE.conf]
        rcases hv.shape with ⟨x,e⟩ | ⟨x,y,e⟩<;>rw [e] at hh ⊢<;>simp [confOf,half0,half1] at hh ⊢
        · exact .inl hh
        · exact hh
    refine ⟨fun n hn=>?_,fun _=>L⟩
    obtain ⟨n0,l,hl⟩:=G.ld _ n hn
    exact Led.same (z.meets l k) (hl.mono le n0) L
theorem good1_upd (z:c.Good) (G:Good1 c g W) (hE:W.mem[i]?=some E) (hk:W.kn[i]?=some k) (tr:Trg g E E' E'.out) (vs:VS c.size E') {ms:List Msg} (out:∀ r∈ms,r∈E'.out∧Msg1 c r) :
    Good1 c (gset g E'.term E.nid E'.vote) { W with mem:=W.mem.set i E'.flush,ly:=W.ly++ms,led:=ledP W.led E' }:=by
  obtain ⟨okE,nidE⟩:=G.ok i E k hE hk
  obtain ⟨m1,cd,ld⟩:=G.s1 i E hE
  have le:=gset_le m1 tr
  have nid:=okE.nid
  have inj:∀ (j:Nat) (F:El),j≠i→W.mem[j]?=some F→F.nid≠E.nid:=by
    intro j F hj hF
    have hl:j < W.kn.length:=by rw [G.lenK,← G.lenM]; exact (List.getElem?_eq_some_iff.mp hF).1
    rw [(G.ok j F _ hF (List.getElem?_eq_getElem hl)).2,nidE]; (first | lia | omega +splitDisjunctions)
  have old:∀ t n,W.led.lookup t=some n→(ledP W.led E').lookup t=some n:=by
    intro t n h
    unfold ledP
    split
    · rename_i q
      rw [lookup_cons,if_neg fun e=>nS ((e▸q.2).symm.trans h)]; exact h
    · exact h
  refine ⟨by show (W.mem.set _ _).length=_; rw [List.length_set]; exact G.lenM,G.lenK,G.kn,?_,?_,?_,?_,?_⟩
  · intro j F l hF hl
    rcases set_cases hF with ⟨rfl,rfl⟩ | ⟨_,hF⟩
    · cases hl.symm.trans hk
      refine ⟨⟨?_,tr.conf.trans okE.conf,tr.check.trans okE.check,tr.pre.trans okE.pre,tr.last.trans okE.last,Int.le_trans okE.term tr.term,rfl,⟨vs.v,vs.st⟩⟩,tr.nid.trans nidE⟩
      show 1≤E'.nid∧E'.nid≤c.size
      rw [tr.nid]; exact nid
    · exact G.ok j F l hF hl
  · intro r hr
    rcases List.mem_append.mp hr with h | h
    · exact G.msg r h
    · exact (out r h).2
  · intro j F hF
    rcases set_cases hF with ⟨rfl,rfl⟩ | ⟨hj,hF⟩
    · have m1':=mine_set m1 tr
      refine ⟨m1',Cand.mono le (by show E'.nid≠0; rw [tr.nid]; (first | lia | omega +splitDisjunctions)) tr.cand,fun h2=>?_⟩
      have h2:E'.state=2:=h2
      show (ledP W.led E').lookup E'.term=some E'.nid
      rcases hq:W.led.lookup E'.term with _ | n
      · unfold ledP; rw [if_pos ⟨h2,hq⟩,lookup_cons,if_pos rfl]
      · rw [old _ _ hq,(G.lead z hE hk tr h2).1 n hq,tr.nid]
    · obtain ⟨a,b,d⟩:=G.s1 j F hF
      have hl:j < W.kn.length:=by rw [G.lenK,← G.lenM]; exact (List.getElem?_eq_some_iff.mp hF).1
      have nF:=(G.ok j F _ hF (List.getElem?_eq_getElem hl)).1.nid
      exact ⟨mine_other a (inj j F hj hF),Cand.mono le (by (first | lia | omega +splitDisjunctions)) b,fun h=>old _ _ (d h)⟩
  · intro r hr hk6 hj
    rcases List.mem_append.mp hr with h | h
    · have e:=G.s2 r h hk6 hj
      have:=(G.msg r h).to
      rw [le _ _ (by rw [e]; (first | lia | omega +splitDisjunctions))]; exact e
    · obtain ⟨a,b⟩:=tr.resp r (out r h).1 hk6 hj
      rw [tr.frm r (out r h).1]
      unfold gset
      rw [if_pos ⟨a,rfl⟩]; exact b.symm
  · intro t n h0
    have up:W.led.lookup t=some n→n≠0∧∃ k,Led (c.hs k) (gset g E'.term E.nid E'.vote) t n:=fun h=>by
      obtain ⟨n0,l,hl⟩:=G.ld t n h
      exact ⟨n0,l,hl.mono le n0⟩
    have h:(ledP W.led E').lookup t=some n:=h0
    clear h0
    unfold ledP at h
    split at h
    · rename_i q
      rw [lookup_cons] at h
      by_cases e:t=E'.term
      · rw [if_pos e] at h
        rw [e,← Option.some.inj h,tr.nid]
        exact ⟨by (first | lia | omega +splitDisjunctions),k,(G.lead z hE hk tr q.1).2 q.2⟩
      · rw [if_neg e] at h; exact up h
    · exact up h
theorem good1_put (G:Good1 c g W) (hE:W.mem[i]?=some E) (hk:W.kn[i]?=some k) {F:El} {l:Int} (hl:l=0∨l=1) (ok:Ok1 c l F) (nid:F.nid=E.nid) (mine:Mine1 g F) (cd:Cand g F) (ld:F.state=2→E.state=2∧F.term=E.term) :
    Good1 c g { W with mem:=W.mem.set i F,kn:=W.kn.set i l }:=by
  obtain ⟨okE,nidE⟩:=G.ok i E k hE hk
  obtain ⟨m1,_,ldE⟩:=G.s1 i E hE
  refine ⟨by show (W.mem.set _ _).length=_; rw [List.length_set]; exact G.lenM,by show (W.kn.set _ _).length=_; rw [List.length_set]; exact G.lenK,?_,?_,G.msg,?_,G.s2,G.ld⟩
  · intro x hx
    rcases List.mem_or_eq_of_mem_set hx with h | h
    · exact G.kn x h
    · rw [h]; exact hl
  · intro j F' l' hF hl'
    rcases set_cases hF with ⟨rfl,rfl⟩ | ⟨hj,hF⟩
    · rcases set_cases hl' with ⟨_,rfl⟩ | ⟨hj,_⟩
      · exact ⟨ok,nid.trans nidE⟩
      · exact absurd rfl hj
    · rcases set_cases hl' with ⟨hj',_⟩ | ⟨_,hl'⟩
      · exact absurd hj' hj
      · exact G.ok j F' l' hF hl'
  · intro j F' hF
    rcases set_cases hF with ⟨rfl,rfl⟩ | ⟨hj,hF⟩
    · refine ⟨mine,cd,fun h2=>?_⟩
      obtain ⟨a,b⟩:=ld h2
      show W.led.lookup F'.term=some F'.nid
      rw [b,nid]; exact ldE a
    · exact G.s1 j F' hF
theorem good1_ly (G:Good1 c g W) {l:List Msg} {n:Int} (h:∀ m∈l,m∈W.ly):Good1 c g { W with ly:=l,left:=n } :=
  ⟨G.lenM,G.lenK,G.kn,G.ok,fun m hm=>G.msg m (h m hm),G.s1,fun m hm=>G.s2 m (h m hm),G.ld⟩
theorem good1_add (G:Good1 c g W) {l:List Msg} (h:∀ m∈l,Msg1 c m∧m.kind≠6):Good1 c g { W with ly:=W.ly++l }:=by
  refine ⟨G.lenM,G.lenK,G.kn,G.ok,fun m hm=>?_,G.s1,fun m hm q=>?_,G.ld⟩
  · exact (List.mem_append.mp hm).elim (G.msg m) fun e=>(h m e).1
  · exact (List.mem_append.mp hm).elim (fun e=>G.s2 m e q) fun e=>absurd q (h m e).2
end
end Mine
end
section
open PySem
namespace Mine.L01
variable {dp:Nat}
noncomputable abbrev T1 (d:Nat):TL:=mkL lawFns d
open L03 (isHv Sz conf_small idsP)
theorem wf_ids {G:Gh} {drawn:Int} {size:Nat} {Q:V→Hp→Prop} (hG:G.t.length=G.h.length) (hs:size < 30) (k:∀ D r,Grow G D→At D 0 r (zs (idsP drawn size))→Q (.ref r) D.h):WF (T1 (dp + 1)) 60 [.int drawn,.int size] G.h Q:=by
  refine WF.go rfl rfl ?_
  refine WS.ret (WX.compRange2 (m:=1) (n:=(size:Int) + 1) PX.const (by tb_rel) rfl (small_of (by (first | lia | omega +splitDisjunctions))) (CompG.sift hG (by exact Nat.le_trans (by assumption) (by decide)) rfl (fun j=>decide (drawn / 2 ^ (j - 1).toNat % 2=1)) ?_ fun D x a=>k D _ x a))
  intro j hj D x
  have hp:=L03.pow_small (j:=j - 1) (by lia)
  refine WC.px x.len ?_
  have b1:binV .FloorDiv (.int drawn) (.int (2 ^ (j - 1).toNat)) D.h=some (.int (drawn / 2 ^ (j - 1).toNat),D.h):=by
    exact L03.bin_cond (g:=decide ((0:Int) < 2 ^ (j - 1).toNat) && decide ((2:Int) ^ (j - 1).toNat < 1073741824)) (by simp only [Bool.and_eq_true,decide_eq_true_eq]; exact hp)
  have b2:binV .Mod (.int (drawn / 2 ^ (j - 1).toNat)) (.int 2) D.h=some (.int (drawn / 2 ^ (j - 1).toNat % 2),D.h):=rfl
  exact PX.cmp (PX.bin (PX.bin (by tb_rel) (PX.bin PX.const (PX.bin (by tb_rel) PX.const rfl) (L03.pow_ok (by lia))) b1) PX.const b2) PX.const cmp_eq
theorem wf_conf {G:Gh} {aH:Nat} {hs:List (List Int)} {size:Nat} {Q:V→Hp→Prop} (hG:G.t.length=G.h.length) (z:Sz size hs) (hh:isHv G aH hs)
    (k:∀ D r,Grow G D→isConf D r (confOf hs size)→Q (.ref r) D.h):WF (T1 (dp + 3)) 62 [.ref aH,.int size] G.h Q:=by
  have zl:=z.lt
  refine WF.go rfl rfl ?_
  refine WS.asg (WX.list (WXs.nil ?_))
  have x3:Grow G (G.new 0 (zs [])):=Ext.new hG 0 _
  have b3:=At.fresh hG 0 (zs [])
  have hh3:=hh.ext x3 id
  obtain ⟨rs,ra,rl⟩:=id hh3
  have rest:∀ r8,At (G.new 0 (zs [])) 0 r8 (zs (half1 hs))→WS (T1 (dp + 2)) [.asg 3 (.comp (.loc 4) true [(.const (.int 1)),(.bin .Add (.loc 1) (.const (.int 1)))] (some (.bop true [(.cmp .NotIn (.loc 4) (.sub (.loc 0) (.const (.int 0)))),(.cmp .NotIn (.loc 4) (.loc 2))]))),.ret (.new 1 [(.sub (.loc 0) (.const (.int 0))),(.loc 2),(.loc 3),(.list []),(.const (.bool false))])]
      [some (.ref aH),some (.int size),some (.ref r8),none] (G.new 0 (zs [])).h fun fl _ H'=>Q (outOf fl) H':=by
    intro r8 a8
    have e0:hs[0]?=some (half0 hs):=by
      rcases z.hv.shape with ⟨a,rfl⟩ | ⟨a,b,rfl⟩<;>rfl
    obtain ⟨r0,q0⟩:=hh3.at (k:=0) e0
    obtain ⟨a0,sb0⟩:=q0.resolve_right (by (first | lia | omega +splitDisjunctions))
    have sub0:∀ D,Grow (G.new 0 (zs [])) D→subV (.ref aH) (.int 0) D.h=some (.ref r0):=by
      intro D x
      have raD:=x.keep _ _ _ id ra
      rw [sub_ref raD.2]
      rw [sub_ref ra.2] at sb0
      exact sb0
    refine WS.asg (WX.compRange2 (m:=1) (n:=(size:Int) + 1) PX.const (by tb_rel) rfl (small_of (by (first | lia | omega +splitDisjunctions))) (CompG.sift x3.len (by (first | lia | omega +splitDisjunctions)) rfl (fun j=>decide (j∉half0 hs) && decide (j∉half1 hs)) ?_ fun D x a=>?_))
    · intro j hj D x
      refine WC.px x.len ?_
      have:=PX.and (ρ:=[some (.ref aH),some (.int size),some (.ref r8),none]++[some (.int j)]) (a:=.cmp .NotIn (.loc 4) (.sub (.loc 0) (.const (.int 0)))) (c:=.cmp .NotIn (.loc 4) (.loc 2)) (cs:=[]) (H:=D.h)
        (PX.cmp (PX.loc rfl) (PX.sub (PX.loc rfl) PX.const (sub0 D x)) (cmp_notin_list (x.keep _ _ _ id a0).2)) (PX.bop1 (PX.cmp (PX.loc rfl) (PX.loc rfl) (cmp_notin_list (x.keep _ _ _ id a8).2)))
      simpa using this
    · have y5:Grow D (D.new 0 (zs [])):=Ext.new x.len 0 _
      have xy:=x.trans y5
      refine WS.ret (WX.new rfl (WXs.cons (WX.p (PX.sub (PX.loc rfl) PX.const (sub0 D x)) (WXs.cons (WX.p (by tb_rel) (WXs.cons (WX.p (by tb_rel) (WXs.cons (WX.list (WXs.nil (WXs.p (by tb_rel) ?_)))))))))))
      have l1:(half0 hs).length < 64:=by have:=(conf_small z).conf; have h:(confOf hs size).voters=half0 hs:=rfl; rw [h] at this; (first | lia | omega +splitDisjunctions)
      have l2:(half1 hs).length < 64:=by have:=(conf_small z).conf; have h:(confOf hs size).outgoing=half1 hs:=rfl; rw [h] at this; (first | lia | omega +splitDisjunctions)
      have l3:((upTo size).filter fun j=>decide (j∉half0 hs) && decide (j∉half1 hs)).length < 64:=by have:=(conf_small z).conf; rw [L03.rest_eq] at this; (first | lia | omega +splitDisjunctions)
      refine wf_config (G:=D.new 0 (zs [])) y5.len (xy.keep _ _ _ id a0).2 (xy.keep _ _ _ id a8).2 (y5.keep _ _ _ id a).2 (At.fresh x.len 0 (zs [])).2 l1 l2 l3 fun D6 x6 c6=>⟨rfl,?_⟩
      refine k D6 _ (x3.trans (xy.trans x6)) ?_
      have r0':risingP (half0 hs)=half0 hs:=by
        rcases z.hv.shape with ⟨a,e⟩ | ⟨a,b,e⟩<;>exact rising_SI (by rw [e]; exact z.hv.si a (by rw [e]; simp))
      have r1':risingP (half1 hs)=half1 hs:=by
        rcases z.hv.shape with ⟨a,e⟩ | ⟨a,b,e⟩
        · rw [e]; rfl
        · exact rising_SI (by rw [e]; exact z.hv.si b (by rw [e]; simp))
      have r2':risingP ((upTo size).filter fun j=>decide (j∉half0 hs) && decide (j∉half1 hs))=(upTo size).filter fun j=>decide (j∉half0 hs) && decide (j∉half1 hs):=rising_SI (SI_filter (SI_upTo size) _)
      rw [r0',r1',r2'] at c6
      exact c6
  have hlen:PX [some (.ref aH),some (.int size),some (.ref G.h.length),none] (G.new 0 (zs [])).h (.len (.loc 0)) (.int hs.length):=by
    refine PX.len (PX.loc rfl) ?_
    rw [len_list ra.2,List.length_map,rl.length]
  refine WS.ite (PX.cmp hlen PX.const cmp_gt) (fun h=>?_) (fun h=>?_)
  · have h':=of_decide_eq_true h
    have e1:hs[1]?=some (half1 hs):=by
      rcases z.hv.shape with ⟨a,rfl⟩ | ⟨a,b,rfl⟩
      · simp at h'
      · rfl
    obtain ⟨r1,q1⟩:=hh3.at (k:=1) e1
    obtain ⟨b1,sb1⟩:=q1.resolve_right (by (first | lia | omega +splitDisjunctions))
    exact WS.asg (WX.p (PX.sub (PX.loc rfl) PX.const sb1) (rest r1 b1))
  · have h':=of_decide_eq_false h
    have e1:half1 hs=[]:=by
      rcases z.hv.shape with ⟨a,rfl⟩ | ⟨a,b,rfl⟩
      · rfl
      · simp at h'
    exact rest _ (by rw [e1]; exact b3)
theorem conf_rising {hs:List (List Int)} {size:Nat} (z:Hv hs size):(⟨risingP (confOf hs size).voters,risingP (confOf hs size).outgoing,risingP (confOf hs size).learners⟩:CfP)=confOf hs size:=by
  have r0':risingP (half0 hs)=half0 hs:=by
    rcases z.shape with ⟨a,e⟩ | ⟨a,b,e⟩<;>exact rising_SI (by rw [e]; exact z.si a (by rw [e]; simp))
  have r1':risingP (half1 hs)=half1 hs:=by
    rcases z.shape with ⟨a,e⟩ | ⟨a,b,e⟩
    · rw [e]; rfl
    · exact rising_SI (by rw [e]; exact z.si b (by rw [e]; simp))
  show (⟨risingP (half0 hs),risingP (half1 hs),risingP ((upTo size).filter fun j=>decide (j∉half0 hs) && decide (j∉half1 hs))⟩:CfP)=_
  rw [r0',r1',rising_SI (SI_filter (SI_upTo size) _)]; rfl
theorem wf_anew {G:Gh} {aH:Nat} {hs:List (List Int)} {size:Nat} {bits n t v:Int} {Q:V→Hp→Prop} (hG:G.t.length=G.h.length) (z:Sz size hs) (hh:isHv G aH hs) (hn:1≤n)
    (k:∀ e A G',St n.toNat e G A G' (anewE n (decide (bits / 2 % 2=1)) (decide (bits % 2=1)) (confOf hs size) t v (1,1))→Q (.ref e) G'.h):WF (T1 (dp + 6)) 63 [.int n,.int bits,.ref aH,.int size,.tup [.int t,.int v]] G.h Q:=by
  have zl:=z.lt
  refine WF.go rfl rfl ?_
  refine WS.asg (wx_raftconfig (by tb_rel) (by tb_rel) (by tb_rel) (by tb_rel) ?_)
  refine WS.setI rfl rfl rfl (by tb_rel) (WS.setI rfl rfl rfl (by tb_rel) (WS.setI rfl rfl rfl (by tb_rel) ?_))
  have x1:Grow G (G.new 0 (.inst 3 (rcfs n (decide (bits / 2 % 2=1)) (decide (bits % 2=1)) (.tup [.int n,.int 0])))):=Ext.new hG 0 _
  have a1:=At.fresh hG 0 (.inst 3 (rcfs n (decide (bits / 2 % 2=1)) (decide (bits % 2=1)) (.tup [.int n,.int 0])))
  refine WS.asg (wx_elector (j:=n.toNat) (G:=G.new 0 (.inst 3 (rcfs n (decide (bits / 2 % 2=1)) (decide (bits % 2=1)) (.tup [.int n,.int 0])))) x1.len (by (first | lia | omega +splitDisjunctions)) (by tb_rel) a1.2 (by (first | lia | omega +splitDisjunctions)) fun e A G2 s2=>?_)
  have s2:St n.toNat e G A G2 (El.born n (decide (bits / 2 % 2=1)) (decide (bits % 2=1))):=⟨s2.j0,s2.mem,(x1.weaken fun _ f=>f.elim).trans s2.ext⟩
  have hh2:=hh.ext s2.ext fun q=>s2.j0 q.symm
  refine WS.expr (WX.methW (PX.loc rfl) s2.he rfl rfl (WXs.cons (WX.p (PX.sub (PX.loc rfl) PX.const rfl) (WXs.cons (WX.p (PX.sub (PX.loc rfl) PX.const rfl) (WXs.cons (WX.call (WXs.p (by tb_rel) (wf_conf s2.mem.len z hh2 fun D r x c6=>?_)))))))))
  refine WXs.cons (WX.p (by tb_rel) (WXs.nil ?_))
  have s6:=s2.grow x
  refine wf_stand (C:=confOf hs size) s6.self c6 (conf_small z) fun A7 G7 s7=>WS.ret (WX.p (PX.loc rfl) (k e A7 G7 (s6.rebase ?_)))
  rw [conf_rising z.hv] at s7
  exact s7
end Mine.L01
end
section
open PySem
namespace Mine.L01
variable {dp:Nat}
open L03 (isHv Sz conf_small HasMem)
structure Rt where
  aM:Nat
  aS:Nat
  aL:Nat
  aD:Nat
  aG:Nat
  aK:Nat
  aC:Nat
  aF:Nat
noncomputable def wV (c:C1) (R:Rt):V:=.tup [.ref R.aM,.ref R.aS,.ref R.aL,.ref R.aD,.ref R.aG,.ref R.aK,.ref R.aC,.int c.bits,.ref R.aF]
inductive Mems (a:Nat) (G:Gh) (l:List El):Prop
  | mk (es:List Nat):At G 101 a (.list (es.map .ref))→es.length=l.length→(∀ (i:Nat) (E:El),l[i]?=some E→HasMem G es i E)→Mems a G l
inductive Lies (a:Nat) (G:Gh) (l:List Msg):Prop
  | mk (ls:List Nat):At G 103 a (.list (ls.map .ref))→All2 (isMsg G) ls l→Lies a G l
inductive Gv (a:Nat) (G:Gh) (g:Int→Int→Int) (n:Nat):Prop
  | nil:At G 106 a (.dict [])→(∀ t n,g t n=0)→Gv a G g n
  | log (es:List (List Int×V)):At G 106 a (.tdict es)→es.length≤n→(∀ t n,tget [t,n] es=if g t n=0 then none else some (.int (g t n)))→Gv a G g n
inductive Cfs (a:Nat) (G:Gh) (c:C1):Prop
  | mk (r0 r1:Nat):At G 0 a (.list [.ref r0,.ref r1])→isHv G r0 c.ha→isHv G r1 c.hb→Cfs a G c
noncomputable def savV (E:El):V:=.tup [.int E.term,.int E.vote]
noncomputable def ledV (p:Int×Int):Int×V:=(p.1,.int p.2)
structure Wd (c:C1) (R:Rt) (G:Gh) (W:W1) (g:Int→Int→Int) (n:Nat):Prop where
  len:G.t.length=G.h.length
  mem:Mems R.aM G W.mem
  sav:At G 102 R.aS (.list (W.mem.map savV))
  ly:Lies R.aL G W.ly
  left:At G 104 R.aF (.list [.int W.left])
  led:At G 105 R.aD (.dict (W.led.map ledV))
  ledl:W.led.length≤n
  giv:Gv R.aG G g n
  kn:At G 107 R.aK (.list (W.kn.map .int))
  cf:Cfs R.aC G c
section
variable {S:Nat→Prop} {G D:Gh} {a:Nat} {c:C1} {g:Int→Int→Int} {n:Nat}
theorem Mems.ext {l:List El} (w:Mems a G l) (x:Ext S G D) (n:¬ S 101) (n0:¬ S 0) (z:∀ i,i < l.length→¬ S (i + 1)):Mems a D l:=by
  obtain ⟨es,m1,m2,m3⟩:=w
  refine ⟨es,x.keep _ _ _ n m1,m2,fun i E h=>?_⟩
  obtain ⟨e,A,a,b⟩:=m3 i E h
  exact ⟨e,A,a,b.ext x n0 (z i (List.getElem?_eq_some_iff.mp h).1)⟩
theorem Mems.hi {l:List El} (w:Mems a G l) (x:Ext S G D) (n:¬ S 101) (z:l.length < 100) (s:∀ τ,S τ→100 < τ):Mems a D l :=
  w.ext x n (fun q=>absurd (s 0 q) (by decide)) fun i h q=>by have:=s _ q; (first | lia | omega +splitDisjunctions)
theorem Lies.ext {l:List Msg} (w:Lies a G l) (x:Ext S G D) (n:¬ S 103) (n0:¬ S 0):Lies a D l:=by
  obtain ⟨ls,l1,l2⟩:=w
  exact ⟨ls,x.keep _ _ _ n l1,l2.mono fun _ _=>isMsg.ext x n0⟩
theorem Gv.ext (w:Gv a G g n) (x:Ext S G D) (h:¬ S 106):Gv a D g n:=by
  rcases w with ⟨b,e⟩ | ⟨es,b,l,e⟩
  · exact .nil (x.keep _ _ _ h b) e
  · exact .log es (x.keep _ _ _ h b) l e
theorem Cfs.ext (w:Cfs a G c) (x:Ext S G D) (n0:¬ S 0):Cfs a D c:=by
  obtain ⟨r0,r1,b,h0,h1⟩:=w
  exact ⟨r0,r1,x.keep _ _ _ n0 b,h0.ext x n0,h1.ext x n0⟩
theorem Wd.grow {R:Rt} {W:W1} (w:Wd c R G W g n) (x:Grow G D):Wd c R D W g n :=
  ⟨x.len,w.mem.ext x id id fun _ _=>id,x.keep _ _ _ id w.sav,w.ly.ext x id id,x.keep _ _ _ id w.left,x.keep _ _ _ id w.led,w.ledl,w.giv.ext x id,x.keep _ _ _ id w.kn,w.cf.ext x id⟩
noncomputable abbrev Ch (G D:Gh):Prop:=Ext (fun τ=>τ≠0∧τ≤107) G D
noncomputable abbrev Look (a:Nat) (G:Gh) (i e:Nat):Prop:=∀ es:List Nat,At G 101 a (.list (es.map .ref))→es[i]?=some e
theorem look_of {i e τ r:Nat} {es:List Nat} (b:At G τ r (.list (es.map .ref))) (h:es[i]?=some e):∀ es':List Nat,At G τ r (.list (es'.map .ref))→es'[i]?=some e:=by
  intro es' b'
  have z:some (O.list (es.map V.ref))=some (O.list (es'.map V.ref)):=b.2.symm.trans b'.2
  rw [← (List.map_inj_right (f:=V.ref) fun x y q=>V.ref.inj q).mp (O.list.inj (Option.some.inj z))]
  exact h
theorem Look.ext {l:List El} {i e:Nat} (h:Look a G i e) (w:Mems a G l) (x:Ext S G D) (n:¬ S 101):Look a D i e:=by
  obtain ⟨es,m1,_⟩:=w
  exact look_of (x.keep _ _ _ n m1) (h es m1)
theorem Mems.look {l:List El} {i e:Nat} {E:El} (w:Mems a G l) (h:Look a G i e) (hE:l[i]?=some E):∃ A,Mem (i + 1) A e G E:=by
  obtain ⟨es,m1,_,m3⟩:=w
  obtain ⟨e',A,b,q⟩:=m3 i E hE
  cases b.symm.trans (h es m1)
  exact ⟨A,q⟩
theorem tdict_at {r:Nat} {H:Hp} {es:List (List Int×V)} (h:H[r]?=some (.tdict es)):listAt r H=none∧dictAt r H=none∧tdictAt r H=some es:=by
  unfold listAt dictAt tdictAt; rw [h]; exact ⟨rfl,rfl,rfl⟩
theorem in_given (w:Gv a G g n) {t v:Int}:cmpV .In (.tup [.int t,.int v]) (.ref a) G.h=some (.bool (decide (g t v≠0))):=by
  suffices key:inV G.h (.tup [.int t,.int v]) (.ref a)=some (decide (g t v≠0)) from congrArg (Option.map V.bool) key
  rcases w with ⟨b,e⟩ | ⟨es,b,l,e⟩
  · obtain ⟨e1,e2⟩:=dict_at b.2
    have e3:tdictAt a G.h=some []:=by unfold tdictAt; rw [b.2]; rfl
    show els ((listAt a G.h).bind (inD _)) (els ((dictAt a G.h).bind fun es=>(intO (.tup [.int t,.int v])).map fun k=>(dget k es).isSome) ((tdictAt a G.h).bind fun es=>some (tget [t,v] es).isSome))=_
    rw [e1,e2,e3,decide_eq_false fun q=>q (e t v)]; rfl
  · obtain ⟨e1,e2,e3⟩:=tdict_at b.2
    show els ((listAt a G.h).bind (inD _)) (els ((dictAt a G.h).bind fun es=>(intO (.tup [.int t,.int v])).map fun k=>(dget k es).isSome) ((tdictAt a G.h).bind fun es=>some (tget [t,v] es).isSome))=_
    rw [e1,e2,e3]
    show some (tget [t,v] es).isSome=_
    rw [e t v]
    by_cases q:g t v=0
    · rw [if_pos q,decide_eq_false fun z=>z q]; rfl
    · rw [if_neg q,decide_eq_true q]; rfl
theorem sub_given (w:Gv a G g n) {t v:Int} (h:g t v≠0):subV (.ref a) (.tup [.int t,.int v]) G.h=some (.int (g t v)):=by
  rcases w with ⟨b,e⟩ | ⟨es,b,l,e⟩
  · exact absurd (e t v) h
  · obtain ⟨e1,e2,e3⟩:=tdict_at b.2
    show els ((listAt a G.h).bind (idxS _)) (els ((dictAt a G.h).bind fun es=>(intO (.tup [.int t,.int v])).bind fun k=>dget k es) ((tdictAt a G.h).bind fun es=>tget [t,v] es))=_
    rw [e1,e2,e3]
    show tget [t,v] es=_
    rw [e t v,if_neg h]
theorem wf_wins {aH size:Nat} {hs:List (List Int)} {t who:Int} {Q:V→Hp→Prop} (w:Gv a G g n) (hh:isHv G aH hs) (z:Sz size hs) (w0:who≠0) (L:Led hs g t who) (q:Q (.bool true) G.h):WF (T1 (dp + 1)) 64 [.ref a,.int t,.int who,.ref aH] G.h Q:=by
  obtain ⟨rs,ar,al⟩:=hh
  have zl:=z.len
  refine WF.go rfl rfl ?_
  refine WS.forList (WX.p (PX.loc rfl) ⟨aH,_,rfl,ar.2,ForG.list (rs.map .ref) (fun k ρ H'=>H'=G.h∧∃ x4 x5 x6,ρ=[some (.ref a),some (.int t),some (.int who),some (.ref aH),x4,x5,x6]) ?_ ?_ ?_ ?_ ?_⟩)
  · rw [List.length_map,al.length]; simp only [lim]; (first | lia | omega +splitDisjunctions)
  · rintro k ρ H ⟨rfl,_⟩; exact ar.2
  · exact ⟨rfl,none,none,none,rfl⟩
  · rintro k v ρ H hv ⟨rfl,x4,x5,x6,rfl⟩
    rw [List.getElem?_map] at hv
    obtain ⟨r,hr,rfl⟩:=Option.map_eq_some_iff.mp hv
    obtain ⟨h,hh,at'⟩:=al.get' hr
    have hm:h∈hs:=List.mem_of_getElem? hh
    have hl:=z.half hm
    refine WS.asg (WX.p PX.const ?_)
    refine WS.forList (WX.p (PX.loc rfl) ⟨r,_,rfl,at'.2,ForG.list (h.map .int) (fun j ρ H'=>H'=G.h∧∃ x6,ρ=[some (.ref a),some (.int t),some (.int who),some (.ref aH),some (.ref r),some (.int ((h.take j).countP fun v=>decide (g t v=who):Nat)),x6]) ?_ ?_ ?_ ?_ ?_⟩)
    · rw [List.length_map]; simp only [lim]; (first | lia | omega +splitDisjunctions)
    · rintro j ρ H ⟨rfl,_⟩; exact at'.2
    · exact ⟨rfl,x6,rfl⟩
    · rintro j u ρ H hu ⟨rfl,x6,rfl⟩
      rw [List.getElem?_map] at hu
      obtain ⟨y,hy,rfl⟩:=Option.map_eq_some_iff.mp hu
      have cnt:(h.take (j + 1)).countP (fun v=>decide (g t v=who))=(h.take j).countP (fun v=>decide (g t v=who)) + if g t y=who then 1 else 0:=by
        rw [List.take_add_one,hy,List.countP_append]
        simp [List.countP_cons]
      have p:PX [some (.ref a),some (.int t),some (.int who),some (.ref aH),some (.ref r),some (.int ((h.take j).countP fun v=>decide (g t v=who):Nat)),some (.int y)] G.h (.bop true [(.cmp .In (.tup [(.loc 1),(.loc 6)]) (.loc 0)),(.cmp .Eq (.sub (.loc 0) (.tup [(.loc 1),(.loc 6)])) (.loc 2))]) (.bool (decide (g t y=who))):=by
        have pin:PX [some (.ref a),some (.int t),some (.int who),some (.ref aH),some (.ref r),some (.int ((h.take j).countP fun v=>decide (g t v=who):Nat)),some (.int y)] G.h (.cmp .In (.tup [(.loc 1),(.loc 6)]) (.loc 0)) (.bool (decide (g t y≠0))):=PX.cmp (by tb_rel) (PX.loc rfl) (in_given w)
        by_cases q:g t y=0
        · rw [decide_eq_false fun z=>z q] at pin
          rw [decide_eq_false fun z=>w0 (z.symm.trans q)]
          exact PX.bopF (b:=true) pin rfl
        · rw [decide_eq_true q] at pin
          exact PX.bopT (b:=true) pin rfl (PX.bop1 (PX.cmp (PX.sub (PX.loc rfl) (by tb_rel) (sub_given w q)) (PX.loc rfl) cmp_eq))
      refine WS.ite p (fun e=>?_) (fun e=>?_)
      · have e:=of_decide_eq_true e
        refine WS.augName rfl PX.const rfl (WS.nil ⟨rfl,some (.int y),?_⟩)
        rw [cnt,if_pos e]; rfl
      · have e:=of_decide_eq_false e
        refine WS.nil ⟨rfl,some (.int y),?_⟩
        rw [cnt,if_neg e]; rfl
    · rintro ρ H ⟨rfl,x6,rfl⟩
      rw [List.length_map,List.take_length]
      have lt:=L h hm
      have mul:∀ x:Int,-1000 < x→x < 1000→binV .Mult (.int 2) (.int x) G.h=some (.int (2 * x),G.h):=fun x h1 h2=>by
        exact L03.bin_cond (z:=2 * x) (g:=small 2 && small x) (by simp [small_of (i:=2) (by (first | lia | omega +splitDisjunctions)),small_of (i:=x) (by (first | lia | omega +splitDisjunctions))])
      have cl:h.countP (fun v=>decide (g t v=who))≤h.length:=List.countP_le_length
      refine WS.ite (PX.cmp (PX.bin PX.const (PX.loc rfl) (mul _ (by (first | lia | omega +splitDisjunctions)) (by (first | lia | omega +splitDisjunctions)))) (PX.len (PX.loc rfl) (len_zs at'.2)) cmp_le) (fun e=>?_) (fun _=>?_)
      · have e:=of_decide_eq_true e
        (first | lia | omega +splitDisjunctions)
      · exact WS.nil ⟨rfl,_,_,_,rfl⟩
  · rintro ρ H ⟨rfl,x4,x5,x6,rfl⟩
    exact WS.ret (WX.p PX.const q)
end
end Mine.L01
end
section
open PySem
namespace Mine
section
variable {c:C1} {g:Int→Int→Int} {W:W1} {i:Nat} {E E' E₁:El} {k:Int} {m r:Msg}
structure KindOk (E:El) (m r:Msg):Prop where
  four:r.kind=4→E.check=true∨E.pre=true
  pre:r.kind=17∨r.kind=18→E.pre=true∨m.kind=17
theorem reqs_kind {a t:Int} {tr:Bool} (h:r∈E.reqs a t tr):r.kind=a:=by
  unfold El.reqs at h
  obtain ⟨j,_,e⟩:=List.mem_map.mp h
  rw [← e]
theorem campE_kind {k:Int} (ho:E.out=[]) (h:r∈(E.campaignE k).out):r.kind=5:=by
  unfold El.campaignE at h
  dsimp only at h
  split at h
  · have h':r∈E.out:=h
    rw [ho] at h'; cases h'
  · have h':r∈E.out++(E.becomeCandidate.record E.becomeCandidate.nid true).reqs 5 (E.term + 1) (decide (k=3)):=h
    rw [ho,List.nil_append] at h'
    exact reqs_kind h'
theorem camp_kind {k:Int} (ho:E.out=[]) (hp:k=1→E.pre=true) (h:r∈(E.campaign k).out):KindOk E m r:=by
  have five:r.kind=5→KindOk E m r:=fun e=>⟨fun q=>by (first | lia | omega +splitDisjunctions),fun q=>by (first | lia | omega +splitDisjunctions)⟩
  unfold El.campaign at h
  split at h
  · rename_i hk
    unfold El.campaignP at h
    dsimp only at h
    split at h
    · exact five (campE_kind (E:=E.becomePre.record E.becomePre.nid true) ho h)
    · exact ⟨fun q=>by
        have h':r∈E.out++(E.becomePre.record E.becomePre.nid true).reqs 17 (E.term + 1) false:=h
        rw [ho,List.nil_append] at h'
        have:=reqs_kind h'
        (first | lia | omega +splitDisjunctions),fun _=>.inl (hp hk)⟩
  · exact five (campE_kind ho h)
theorem low_flags (l:E.low m E₁):E₁.check=E.check∧E₁.pre=E.pre:=by
  rcases l with ⟨h,_⟩ | ⟨h,_⟩ | ⟨⟨_,h,_⟩,_⟩<;>rw [h]<;>exact ⟨rfl,rfl⟩
theorem outs_kind (f:Form E m E') (ho:E.out=[]) (h:r∈E'.out):KindOk E m r:=by
  have none:∀ {E':El},E'.out=E.out→r∈E'.out→KindOk E m r:=fun e h=>by rw [e,ho] at h; cases h
  cases f with
  | same=>exact none rfl h
  | lower h1 h2 =>
    unfold El.answerLower at h
    split at h
    · rename_i q
      have h':r∈E.out++_:=h
      rw [ho,List.nil_append,List.mem_singleton] at h'
      rw [h']
      exact ⟨fun _=>q.2,fun q=>by rcases q with q | q<;>exact absurd q (by show ¬ (4:Int)=_; decide)⟩
    · split at h
      · rename_i q
        have h':r∈E.out++_:=h
        rw [ho,List.nil_append,List.mem_singleton] at h'
        rw [h']
        exact ⟨fun q=>absurd q (by show ¬ (18:Int)=_; decide),fun _=>.inr q⟩
      · exact none rfl h
  | stay _ l=>exact none (low_out l) h
  | camp E₁ k l hs _ hk =>
    have q:=camp_kind (E:=E₁) (m:=m) (by rw [low_out l]; exact ho) (fun e=>by rw [(low_flags l).2]; rcases hk with ⟨_,⟨_,p⟩ | ⟨p,_⟩⟩ | ⟨p,_⟩<;>first | exact p | (exfalso; (first | lia | omega +splitDisjunctions))) h
    exact ⟨fun e=>by have:=q.four e; rw [(low_flags l).1,(low_flags l).2] at this; exact this,fun e=>by have:=q.pre e; rw [(low_flags l).2] at this; exact this⟩
  | vote E₁ l hk h0 h1 h2 =>
    have ho1:E₁.out=[]:=by rw [low_out l]; exact ho
    have ek:r.kind=m.kind + 1:=by
      unfold El.answerVote at h
      split at h
      · dsimp only at h
        have h':r∈E₁.out++[({ kind:=m.kind + 1,to:=m.frm,frm:=E₁.nid,term:=m.term,lt:=0,ix:=0,rej:=false,tr:=false }:Msg)]:=by
          split at h<;>exact h
        rw [ho1,List.nil_append,List.mem_singleton] at h'
        rw [h']
      · have h':r∈E₁.out++_:=h
        rw [ho1,List.nil_append,List.mem_singleton] at h'
        rw [h']
    exact ⟨fun q=>by (first | lia | omega +splitDisjunctions),fun q=>by (first | lia | omega +splitDisjunctions)⟩
  | heard E₁ l _ _=>exact none (low_out l) h
  | yield _ _ _=>exact none rfl h
  | polled hs =>
    obtain ⟨s,r1,r2,r3,r4⟩:=rec_facts (E:=E) (n:=m.frm) (b:=!m.rej)
    unfold El.polled at h
    dsimp only at h
    split at h
    · unfold El.won at h
      split at h
      · have:=campE_kind (r3.trans ho) h
        exact ⟨fun q=>by (first | lia | omega +splitDisjunctions),fun q=>by (first | lia | omega +splitDisjunctions)⟩
      · exact none r3 h
    · split at h
      · exact none r3 h
      · exact none r3 h
theorem reqs_len {a t:Int} {tr:Bool}:(E.reqs a t tr).length≤E.conf.allV.length:=by
  unfold El.reqs
  rw [List.length_map]
  exact List.length_filter_le _ _
theorem campE_len {k:Int} (ho:E.out=[]):(E.campaignE k).out.length≤E.conf.allV.length:=by
  unfold El.campaignE
  dsimp only
  split
  · show E.out.length≤_
    rw [ho]; exact Nat.zero_le _
  · show (E.out++(E.becomeCandidate.record E.becomeCandidate.nid true).reqs 5 (E.term + 1) (decide (k=3))).length≤_
    rw [ho,List.nil_append]; exact reqs_len
theorem camp_len {k:Int} (ho:E.out=[]):(E.campaign k).out.length≤E.conf.allV.length:=by
  unfold El.campaign
  split
  · unfold El.campaignP
    dsimp only
    split
    · exact campE_len (E:=E.becomePre.record E.becomePre.nid true) ho
    · show (E.out++(E.becomePre.record E.becomePre.nid true).reqs 17 (E.term + 1) false).length≤_
      rw [ho,List.nil_append]; exact reqs_len
  · exact campE_len ho
theorem low_conf (l:E.low m E₁):E₁.conf=E.conf:=by
  rcases l with ⟨h,_⟩ | ⟨h,_⟩ | ⟨⟨_,h,_⟩,_⟩<;>rw [h]
  rfl
theorem outs_len (f:Form E m E') (ho:E.out=[]):E'.out.length≤E.conf.allV.length + 1:=by
  have none:∀ {E':El},E'.out=E.out→E'.out.length≤E.conf.allV.length + 1:=fun e=>by rw [e,ho]; exact Nat.zero_le _
  have one:∀ {E₁:El} (x:Msg),E₁.out=[]→(E₁.out++[x]).length≤E.conf.allV.length + 1:=fun x e=>by rw [e]; exact Nat.le_add_left 1 _
  cases f with
  | same=>exact none rfl
  | lower h1 h2 =>
    unfold El.answerLower
    split
    · exact one _ ho
    · split
      · exact one _ ho
      · exact none rfl
  | stay _ l=>exact none (low_out l)
  | camp E₁ k l hs _ hk =>
    have:=camp_len (E:=E₁) (k:=k) (by rw [low_out l]; exact ho)
    rw [low_conf l] at this
    (first | lia | omega +splitDisjunctions)
  | vote E₁ l hk h0 h1 h2 =>
    have ho1:E₁.out=[]:=by rw [low_out l]; exact ho
    unfold El.answerVote
    split
    · dsimp only
      split
      · exact one _ ho1
      · exact one _ ho1
    · exact one _ ho1
  | heard E₁ l _ _ =>
    show E₁.out.length≤_
    exact none (low_out l)
  | yield _ _ _=>exact none rfl
  | polled hs =>
    obtain ⟨s,r1,r2,r3,r4⟩:=rec_facts (E:=E) (n:=m.frm) (b:=!m.rej)
    unfold El.polled
    dsimp only
    split
    · unfold El.won
      split
      · have:=campE_len (k:=2) (r3.trans ho)
        rw [s.2.1] at this
        (first | lia | omega +splitDisjunctions)
      · exact none r3
    · split
      · exact none r3
      · exact none r3
noncomputable def actE (E:El):Option Msg→El
  | none=>E.tick
  | some m=>E.step m
inductive Fed (c:C1) (g:Int→Int→Int) (n:Int):Option Msg→Prop
  | tick:Fed c g n none
  | hup:Fed c g n (some (El.hupMsg n))
  | told (m:Msg):Msg1 c m→m.to=n→(m.kind=6→m.rej=false→g m.term m.frm=m.to)→Fed c g n (some m)
structure Done (c:C1) (g:Int→Int→Int) (E E':El):Prop where
  tr:Trg g E E' E'.out
  vs:VS c.size E'
  out:∀ r∈E'.out,Msg1 c r
  len:E'.out.length≤c.size + 1
theorem C1.Good.allV (z:c.Good) (k:Int):(confOf (c.hs k) c.size).allV.length≤c.size:=by
  rw [(z.hv k).allV]
  have h2:=List.length_filter_le (fun j=>(c.hs k).any fun h=>decide (j∈h)) (upTo c.size)
  rw [upTo,List.length_map,List.length_range] at h2
  exact h2
theorem done_form (z:c.Good) (ok:Ok1 c k E) (cd:Cand g E) (f:Form E m E') (hm:m=El.hupMsg E.nid∨Msg1 c m∧(m.kind=6→m.rej=false→g m.term m.frm=E.nid)):Done c g E E':=by
  have nid:=ok.nid
  have frm:1≤m.frm∧m.frm≤c.size:=by
    rcases hm with e | e
    · rw [e]; exact nid
    · exact e.1.frm
  have term:0≤m.term:=by
    rcases hm with e | e
    · rw [e]; exact Int.le_refl _
    · have:=e.1.term; (first | lia | omega +splitDisjunctions)
  have pre:m.kind=17∨m.kind=18→c.pre=true:=by
    rcases hm with e | e
    · rw [e]; intro q; rcases q with q | q<;>exact absurd q (by show ¬ (0:Int)=_; decide)
    · intro q; have:=e.1.kind; (first | lia | omega +splitDisjunctions)
  have tr:Trg g E E' E'.out:=tr_form f cd (by (first | lia | omega +splitDisjunctions)) ok.out fun h6 hj=>by
    rcases hm with e | e
    · rw [e] at h6; cases h6
    · exact e.2 h6 hj
  refine ⟨tr,VS.form f ok.vs nid fun _=>frm,fun r hr=>?_,?_⟩
  · have o:=outs_form f ok.out (by have:=ok.term; (first | lia | omega +splitDisjunctions)) term hr
    have kd:=outs_kind f ok.out hr
    have ks:=tr.kinds r hr
    have k4:=kd.four
    have kp:=kd.pre
    rw [ok.check,ok.pre] at k4
    rw [ok.pre] at kp
    refine ⟨?_,o.term,?_,?_⟩
    · rcases ks with e | e | e | e | e
      · exact .inl ⟨e,(k4 e).symm⟩
      · exact .inr (.inl e)
      · exact .inr (.inr (.inl e))
      · exact .inr (.inr (.inr (.inr (.inr ⟨.inl e,(kp (.inl e)).elim id fun q=>pre (.inl q)⟩))))
      · exact .inr (.inr (.inr (.inr (.inr ⟨.inr e,(kp (.inr e)).elim id fun q=>pre (.inl q)⟩))))
    · rw [o.frm]; exact nid
    · rcases o.what with ⟨_,a,_⟩ | ⟨_,a,_⟩
      · rw [ok.conf,(z.hv k).allV,mem_voters] at a; exact a.1
      · rw [a]; exact frm
  · have:=outs_len f ok.out
    rw [ok.conf] at this
    have:=z.allV k
    (first | lia | omega +splitDisjunctions)
theorem doing (z:c.Good) (G:Good1 c g W) (hE:W.mem[i]?=some E) (hk:W.kn[i]?=some k) {m:Option Msg} (f:Fed c g E.nid m):Done c g E (actE E m):=by
  obtain ⟨ok,nidE⟩:=G.ok i E k hE hk
  obtain ⟨_,cd,_⟩:=G.s1 i E hE
  have et:=ok.term
  cases f with
  | tick =>
    show Done c g E E.tick
    rcases tick_cases E with ⟨_,e⟩ | ⟨h2,_,e⟩ | ⟨h2,_,e⟩<;>rw [e]
    · exact ⟨tr_same cd ok.out,ok.vs,fun r hr=>by rw [ok.out] at hr; exact (List.not_mem_nil hr).elim,by rw [ok.out]; exact Nat.zero_le _⟩
    · have f:=step_form { E with elapsed:=0 } (El.hupMsg E.nid) (.inl rfl) (Int.le_refl _) ok.vs.st (by show 0 < E.term; (first | lia | omega +splitDisjunctions))
      have d:=done_form (E:={ E with elapsed:=0 }) (g:=g) z ⟨ok.nid,ok.conf,ok.check,ok.pre,ok.last,ok.term,ok.out,⟨ok.vs.v,ok.vs.st⟩⟩ cd f (.inl rfl)
      exact ⟨Trg.prep (E':={ E with elapsed:=0 }) ⟨rfl,rfl,rfl,rfl,rfl⟩ rfl rfl h2 d.tr,d.vs,d.out,d.len⟩
    · have ho:({ E with elapsed:=E.elapsed + 1 }:El).out=[]:=ok.out
      refine ⟨?_,⟨ok.vs.v,ok.vs.st⟩,fun r hr=>by rw [ho] at hr; exact (List.not_mem_nil hr).elim,by rw [ho]; exact Nat.zero_le _⟩
      rw [ho]
      exact ⟨rfl,rfl,rfl,rfl,rfl,Int.le_refl _,fun _ _=>rfl,by simp,by simp,by simp,by simp,cd,fun h=>.inl ⟨h,rfl⟩⟩
  | hup=>exact done_form z ok cd (step_form E (El.hupMsg E.nid) (.inl rfl) (Int.le_refl _) ok.vs.st (by (first | lia | omega +splitDisjunctions))) (.inl rfl)
  | told m hm ht h6=>exact done_form z ok cd (step_form E m hm.kinds (by have:=hm.term; (first | lia | omega +splitDisjunctions)) ok.vs.st (by (first | lia | omega +splitDisjunctions))) (.inr ⟨hm,fun a b=>(h6 a b).trans ht⟩)
theorem step_old (ok:Ok1 c k E) (h8:m.kind=8) (h1:1≤m.term) (h:m.term < E.term):(E.step m).out=if c.check=true∨c.pre=true then [{ kind:=4,to:=m.frm,frm:=E.nid,term:=E.term,lt:=0,ix:=0,rej:=false,tr:=false }] else []:=by
  unfold El.step El.settle
  rw [if_neg (show ¬ m.term=0 by (first | lia | omega +splitDisjunctions)),if_neg (show ¬ E.term < m.term by (first | lia | omega +splitDisjunctions)),if_pos h,if_neg (show ¬ false=true from Bool.false_ne_true)]
  show (E.answerLower m).out=_
  unfold El.answerLower
  rw [ok.check,ok.pre]
  by_cases q:c.check=true∨c.pre=true
  · rw [if_pos ⟨.inr h8,q⟩,if_pos q]
    show E.out++_=_
    rw [ok.out]; rfl
  · rw [if_neg fun x=>q x.2,if_neg (show ¬ m.kind=17 by (first | lia | omega +splitDisjunctions)),if_neg q]; exact ok.out
theorem step_leased (ok:Ok1 c k E) (h5:m.kind=5) (h:E.term < m.term) (tr:m.tr=false) (l:E.inLease=true):E.step m=E:=by
  have e:E.settle m=(E,false):=by
    unfold El.settle
    rw [if_neg (show ¬ m.term=0 by have:=ok.term; (first | lia | omega +splitDisjunctions)),if_pos h]
    unfold El.settleHigher
    rw [if_pos ⟨.inl h5,tr,l⟩]
  unfold El.step
  rw [e,if_neg (show ¬ false=true from Bool.false_ne_true)]
end
end Mine
end
section
open PySem
namespace Mine.L01
variable {dp:Nat}
open L03 (isHv Sz conf_small HasMem)
theorem Grow.ch {G D:Gh} (x:Grow G D):Ch G D:=x.weaken fun _ f=>f.elim
theorem St.ch {j e:Nat} {B G:Gh} {A:Adr} {E:El} (s:St j e B A G E) (h:j≤107):Ch B G:=s.ext.weaken fun _ f=>by rw [f]; exact ⟨s.j0,h⟩
theorem Ch.of {S:Nat→Prop} {B G:Gh} (x:Ext S B G) (h:∀ τ,S τ→τ≠0∧τ≤107):Ch B G:=x.weaken h
section
variable {c:C1} {R:Rt} {G D:Gh} {W:W1} {g:Int→Int→Int} {n0:Nat} {Q:V→Hp→Prop}
theorem Mems.member {a i e:Nat} {l:List El} {A':Adr} {G':Gh} {E':El} (w:Mems a G l) (z:l.length < 100) (hi:i < l.length) (he:Look a G i e) (s:St (i + 1) e G A' G' E'):Mems a G' (l.set i E'):=by
  obtain ⟨es,m1,m2,m3⟩:=w
  have n0:¬ (0=i + 1):=by (first | lia | omega +splitDisjunctions)
  refine ⟨es,s.ext.keep _ _ _ (by (first | lia | omega +splitDisjunctions)) m1,by rw [List.length_set]; exact m2,fun k F hF=>?_⟩
  rcases set_cases hF with ⟨rfl,rfl⟩ | ⟨hk,hF⟩
  · exact ⟨e,A',he es m1,s.mem⟩
  · obtain ⟨e',A,a,b⟩:=m3 k F hF
    exact ⟨e',A,a,b.ext s.ext n0 (by (first | lia | omega +splitDisjunctions))⟩
theorem set_self {α:Type} {l:List α} {i:Nat} {a:α} (h:l[i]?=some a):l.set i a=l:=List.ext_getElem? fun k=>by
  by_cases q:i=k
  · subst q; rw [List.getElem?_set_self (List.getElem?_eq_some_iff.mp h).1,h]
  · rw [List.getElem?_set_ne q]
theorem map_set {α β:Type} (f:α→β) (l:List α) (i:Nat) (a:α):(l.set i a).map f=(l.map f).set i (f a):=List.map_set
theorem Wd.saved {i e:Nat} {A':Adr} {G':Gh} {E E':El} (w:Wd c R G W g n0) (z:W.mem.length < 100) (hE:W.mem[i]?=some E) (he:Look R.aM G i e) (s:St (i + 1) e G A' G' E') :
    Wd c R (G'.put R.aS (.list ((W.mem.map savV).set i (savV E')))) { W with mem:=W.mem.set i E' } g n0∧Ext (fun τ=>τ=i + 1∨τ=102) G (G'.put R.aS (.list ((W.mem.map savV).set i (savV E')))):=by
  have hi:=(List.getElem?_eq_some_iff.mp hE).1
  have b2:=s.ext.keep _ _ _ (by (first | lia | omega +splitDisjunctions)) w.sav
  have y:Ext (·=102) G' (G'.put R.aS (.list ((W.mem.map savV).set i (savV E')))):=.put s.ext.len b2 rfl
  have m2:=(w.mem.member z hi he s).hi y (by decide) (by rw [List.length_set]; exact z) (fun τ f=>by rw [f]; decide)
  have b3:At (G'.put R.aS (.list ((W.mem.map savV).set i (savV E')))) 102 R.aS (.list ((W.mem.set i E').map savV)):=by rw [map_set]; exact b2.put
  have x:Ext (fun τ=>τ=i + 1∨τ=102) G (G'.put R.aS (.list ((W.mem.map savV).set i (savV E')))):=(s.ext.weaken fun _ f=>.inl f).trans (y.weaken fun _ f=>.inr f)
  generalize G'.put R.aS (.list ((W.mem.map savV).set i (savV E')))=G2 at *
  exact ⟨⟨x.len,m2,b3,w.ly.ext x (by (first | lia | omega +splitDisjunctions)) (by (first | lia | omega +splitDisjunctions)),x.keep _ _ _ (by (first | lia | omega +splitDisjunctions)) w.left,x.keep _ _ _ (by (first | lia | omega +splitDisjunctions)) w.led,w.ledl,w.giv.ext x (by (first | lia | omega +splitDisjunctions)),x.keep _ _ _ (by (first | lia | omega +splitDisjunctions)) w.kn,w.cf.ext x (by (first | lia | omega +splitDisjunctions))⟩,x⟩
theorem Wd.member {i e:Nat} {A':Adr} {G':Gh} {E E':El} (w:Wd c R G W g n0) (z:W.mem.length < 100) (hE:W.mem[i]?=some E) (he:Look R.aM G i e) (s:St (i + 1) e G A' G' E') (sv:savV E'=savV E):Wd c R G' { W with mem:=W.mem.set i E' } g n0:=by
  have hi:=(List.getElem?_eq_some_iff.mp hE).1
  have x:=s.ext
  refine ⟨x.len,w.mem.member z hi he s,?_,w.ly.ext x (by (first | lia | omega +splitDisjunctions)) (by (first | lia | omega +splitDisjunctions)),x.keep _ _ _ (by (first | lia | omega +splitDisjunctions)) w.left,x.keep _ _ _ (by (first | lia | omega +splitDisjunctions)) w.led,w.ledl,w.giv.ext x (by (first | lia | omega +splitDisjunctions)),x.keep _ _ _ (by (first | lia | omega +splitDisjunctions)) w.kn,w.cf.ext x (by (first | lia | omega +splitDisjunctions))⟩
  have b:=x.keep _ _ _ (by (first | lia | omega +splitDisjunctions)) w.sav
  show At G' 102 R.aS (.list ((W.mem.set i E').map savV))
  rw [map_set,sv,set_self (by rw [List.getElem?_map,hE]; rfl)]
  exact b
theorem Cfs.at {k:Int} (w:Cfs R.aC G c) (h:k=0∨k=1):∃ r,subV (.ref R.aC) (.int k) G.h=some (.ref r)∧isHv G r (c.hs k):=by
  obtain ⟨r0,r1,b,h0,h1⟩:=w
  rcases h with rfl | rfl
  · exact ⟨r0,(sub_ref b.2).trans rfl,h0⟩
  · exact ⟨r1,(sub_ref b.2).trans rfl,h1⟩
theorem C1.Good.sz (z:c.Good) (k:Int):Sz c.size (c.hs k):=⟨by have:=z.size; (first | lia | omega +splitDisjunctions),z.hv k⟩
theorem wf_restart {l:List El} {kn:List Int} {sv:List V} {n k t v:Int} (z:c.Good) (len:G.t.length=G.h.length) (m:Mems R.aM G l) (ll:l.length=c.size) (hn:1≤n∧n≤c.size)
    (b2:At G 102 R.aS (.list sv)) (hs:sv[(n - 1).toNat]?=some (.tup [.int t,.int v])) (b7:At G 107 R.aK (.list (kn.map .int))) (hk:kn[(n - 1).toNat]?=some k) (k01:k=0∨k=1) (cf:Cfs R.aC G c)
    (q:∀ D,Ext (fun τ=>τ=101∨τ=n.toNat) G D→Mems R.aM D (l.set (n - 1).toNat (anewE n c.check c.pre (confOf (c.hs k) c.size) t v (1,1)))→Q .none D.h):WF (T1 (dp + 7)) 65 [wV c R,.int n] G.h Q:=by
  have zs:=z.size
  obtain ⟨es,m1,m2,m3⟩:=id m
  obtain ⟨rk,sc,hh⟩:=cf.at k01
  have sk:subV (.ref R.aK) (.int (n - 1)) G.h=some (.int k):=L03.sub_at b7.2 (by (first | lia | omega +splitDisjunctions)) (by rw [List.getElem?_map,hk]; rfl)
  have ss:subV (.ref R.aS) (.int (n - 1)) G.h=some (.tup [.int t,.int v]):=L03.sub_at b2.2 (by (first | lia | omega +splitDisjunctions)) hs
  have hl:lenV G.h (.ref R.aM)=some (c.size:Int):=by rw [len_list m1.2,List.length_map,m2,ll]
  have j:(n - 1).toNat + 1=n.toNat:=by (first | lia | omega +splitDisjunctions)
  refine WF.go rfl rfl ?_
  refine WS.unpack (WX.p (PX.loc rfl) ⟨_,_,rfl,rfl,?_⟩)
  refine WS.setitem (WX.call (WXs.p (PXs.cons (PX.loc rfl) (PXs.cons (PX.loc rfl) (PXs.cons (PX.sub (PX.loc rfl) (PX.sub (PX.loc rfl) (by tb_rel) sk) sc) (PXs.cons (PX.len (PX.loc rfl) hl) (PXs.cons (PX.sub (PX.loc rfl) (by tb_rel) ss) PXs.nil))))) ?_))
  refine wf_anew (bits:=c.bits) (t:=t) (v:=v) len (C1.Good.sz z k) hh hn.1 fun e' A' G' s'=>?_
  have m1':=s'.ext.keep _ _ _ (by (first | lia | omega +splitDisjunctions)) m1
  refine ⟨.ref R.aM,.int (n - 1),_,PX.loc rfl,by tb_rel,L03.setitem_at m1'.2 (by (first | lia | omega +splitDisjunctions)) (by rw [List.length_map,m2,ll]; (first | lia | omega +splitDisjunctions)),WS.nil ?_⟩
  have y:Ext (·=101) G' (G'.put R.aM (.list ((es.map V.ref).set (n - 1).toNat (.ref e')))):=.put s'.ext.len m1' rfl
  have x:Ext (fun τ=>τ=101∨τ=n.toNat) G (G'.put R.aM (.list ((es.map V.ref).set (n - 1).toNat (.ref e')))):=(s'.ext.weaken fun _ f=>.inr f).trans (y.weaken fun _ f=>.inl f)
  refine q (G'.put R.aM (.list ((es.map V.ref).set (n - 1).toNat (.ref e')))) x ?_
  refine ⟨es.set (n - 1).toNat e',by rw [map_set]; exact m1'.put,by rw [List.length_set,List.length_set]; exact m2,fun i F hF=>?_⟩
  rcases set_cases hF with ⟨rfl,rfl⟩ | ⟨hi,hF⟩
  · exact ⟨e',A',List.getElem?_set_self (by rw [m2,ll]; (first | lia | omega +splitDisjunctions)),by rw [j]; exact s'.mem.ext y (by decide) (by (first | lia | omega +splitDisjunctions))⟩
  · obtain ⟨e1,A1,a1,b1⟩:=m3 i F hF
    have hi':i < l.length:=(List.getElem?_eq_some_iff.mp hF).1
    refine ⟨e1,A1,by rw [List.getElem?_set_ne fun q=>hi q.symm]; exact a1,b1.ext x (by (first | lia | omega +splitDisjunctions)) (by (first | lia | omega +splitDisjunctions))⟩
end
end Mine.L01
end
section
open PySem
namespace Mine.L01
variable {dp:Nat}
open L03 (isHv Sz conf_small HasMem)
noncomputable abbrev dE (c:C1) (R:Rt) (n cut:Int) (m:V) (e:Nat) (x14 x15 x16 x17 x18 x19 x20:Option V):En :=
  [some (wV c R),some (.int n),some m,some (.int cut),some (.ref R.aM),some (.ref R.aS),some (.ref R.aL),some (.ref R.aD),some (.ref R.aG),some (.ref R.aK),some (.ref R.aC),some (.int c.bits),some (.ref R.aF),some (.ref e),x14,x15,x16,x17,x18,x19,x20]
section
variable {c:C1} {R:Rt} {G D:Gh} {W:W1} {g:Int→Int→Int} {n0:Nat} {Q:V→Hp→Prop} {n cut:Int} {m:V} {e:Nat} {x14 x15 x16 x17 x18 x19 x20:Option V}
theorem put_same {r:Nat} {o:O} (h:G.h[r]?=some o):G.h=(G.put r o).h:=(set_self h).symm
theorem ws_lay (w:Wd c R G W g n0) (ll:W.ly.length + 100 < lim) (lm:W.mem.length < 100) {q τ:Nat} {qs:List Nat} {ms:List Msg} (aq:At G τ q (.list (qs.map .ref))) (hτ:τ≠103) (mq:All2 (isMsg G) qs ms) (ml:ms.length < 50)
    (k:∀ D,Ext (·=103) G D→Wd c R D { W with ly:=W.ly++ms } g n0→Q (.bool true) D.h) :
    WS (T1 dp) (List.drop 15 c__law_do) (dE c R n cut m e x14 x15 x16 x17 x18 x19 (some (.ref q))) G.h fun fl _ H'=>Q (outOf fl) H':=by
  obtain ⟨ls1,l11,l21⟩:=w.ly
  have mql:=mq.length
  have lsl:=l21.length
  refine WS.forList (WX.p (PX.loc rfl) ⟨q,_,rfl,aq.2,ForG.list (qs.map .ref) (fun k ρ H'=>H'=(G.put R.aL (.list ((ls1++qs.take k).map .ref))).h∧∃ u,ρ=dE c R n cut m e x14 x15 x16 u x18 x19 (some (.ref q))) ?_ ?_ ?_ ?_ ?_⟩)
  · rw [List.length_map,mql]; simp only [lim]; (first | lia | omega +splitDisjunctions)
  · rintro k ρ H ⟨rfl,_⟩
    exact (aq.put_ne (l11.ne aq (.inl fun f=>hτ f.symm))).2
  · refine ⟨?_,x17,rfl⟩
    rw [List.take_zero,List.append_nil]
    exact put_same l11.2
  · rintro k v ρ H hv ⟨rfl,u,rfl⟩
    have al:(G.put R.aL (.list ((ls1++qs.take k).map .ref))).h[R.aL]?=some (.list ((ls1++qs.take k).map .ref)):=l11.put.2
    have hk:k < qs.length:=by have:=(List.getElem?_eq_some_iff.mp hv).1; rwa [List.length_map] at this
    refine WS.expr (WX.append (PX.loc rfl) al (WX.p (PX.loc rfl) ⟨_,al,?_,WS.nil ⟨?_,some v,rfl⟩⟩))
    · rw [List.length_map,List.length_append,List.length_take]; (first | lia | omega +splitDisjunctions)
    · show List.set (List.set G.h R.aL _) R.aL _=List.set G.h R.aL _
      rw [List.set_set]
      congr 2
      rw [List.getElem?_map] at hv
      obtain ⟨b,hb,rfl⟩:=Option.map_eq_some_iff.mp hv
      rw [List.take_add_one,hb]; simp
  · rintro ρ H ⟨rfl,u,rfl⟩
    rw [List.length_map,List.take_length]
    have y2:Ext (·=103) G (G.put R.aL (.list ((ls1++qs).map .ref))):=.put w.len l11 rfl
    refine WS.ret (WX.p PX.const (k _ y2 ?_))
    exact ⟨y2.len,w.mem.hi y2 (by decide) lm (fun _ f=>by rw [f]; decide),y2.keep _ _ _ (by decide) w.sav,⟨ls1++qs,l11.put,(l21.append mq).mono fun _ _=>isMsg.ext y2 (by decide)⟩,y2.keep _ _ _ (by decide) w.left,y2.keep _ _ _ (by decide) w.led,w.ledl,w.giv.ext y2 (by decide),y2.keep _ _ _ (by decide) w.kn,w.cf.ext y2 (by decide)⟩
theorem slice1 {r:Nat} {vs:List V} {H:Hp} (h:H[r]?=some (.list vs)):sliceV (.ref r) none (some (.int 1)) H=some (.ref H.length,H++[.list (vs.take 1)]):=by
  show (listAt r H).map (fun vs=>(V.ref H.length,H++[O.list (cut vs none (some 1))]))=_
  rw [list_at h]
  rcases vs with _ | ⟨v,vs⟩<;>rfl
theorem Wd.again {i:Nat} {E F:El} {j:Nat} {l:List El} {D:Gh} (w:Wd c R G W g n0) (lm:W.mem.length < 100) (hE:W.mem[i]?=some E) (hj:j=i + 1) (x:Ext (fun τ=>τ=101∨τ=j) G D) (hl:l=W.mem.set i F) (mm:Mems R.aM D l) (sv:savV F=savV E):Wd c R D { W with mem:=W.mem.set i F } g n0:=by
  have hi:=(List.getElem?_eq_some_iff.mp hE).1
  refine ⟨x.len,hl▸mm,?_,w.ly.ext x (by (first | lia | omega +splitDisjunctions)) (by (first | lia | omega +splitDisjunctions)),x.keep _ _ _ (by (first | lia | omega +splitDisjunctions)) w.left,x.keep _ _ _ (by (first | lia | omega +splitDisjunctions)) w.led,w.ledl,w.giv.ext x (by (first | lia | omega +splitDisjunctions)),x.keep _ _ _ (by (first | lia | omega +splitDisjunctions)) w.kn,w.cf.ext x (by (first | lia | omega +splitDisjunctions))⟩
  have b:=x.keep _ _ _ (by (first | lia | omega +splitDisjunctions)) w.sav
  show At D 102 R.aS (.list ((W.mem.set i F).map savV))
  rw [map_set,sv,set_self (by rw [List.getElem?_map,hE]; rfl)]
  exact b
noncomputable abbrev freshE (c:C1) (k n t v:Int):El:=anewE n c.check c.pre (confOf (c.hs k) c.size) t v (1,1)
theorem ws_do_c (z:c.Good) (w:Wd c R G W g n0) (ll:W.ly.length + 100 < lim) (lm:W.mem.length=c.size) (hn:1≤n∧n≤c.size) {E:El} {k:Int} (hE:W.mem[(n - 1).toNat]?=some E) (hk:W.kn[(n - 1).toNat]?=some k) (k01:k=0∨k=1)
    {q:Nat} {qs:List Nat} {ms:List Msg} (aq:At G n.toNat q (.list (qs.map .ref))) (mq:All2 (isMsg G) qs ms) (ml:ms.length < 50)
    (k1:cut≠2→∀ D,Ch G D→Wd c R D { W with ly:=W.ly++ms } g n0→Q (.bool true) D.h)
    (k2:cut=2→∀ D,Ch G D→Wd c R D { W with mem:=W.mem.set (n - 1).toNat (freshE c k n E.term E.vote),ly:=W.ly++ms.take 1 } g n0→Q (.bool true) D.h) :
    WS (T1 (dp + 8)) (List.drop 14 c__law_do) (dE c R n cut m e x14 x15 x16 x17 x18 x19 (some (.ref q))) G.h fun fl _ H'=>Q (outOf fl) H':=by
  have zs:=z.size
  refine WS.ite (by tb_rel) (fun h=>?_) (fun h=>?_)
  · have h':cut=2:=of_decide_eq_true h
    refine WS.asg (WX.slice (PX.loc rfl) evo_none (evo_some PX.const) (slice1 aq.2) ?_)
    have x1:Grow G (G.new 0 (.list ((qs.map V.ref).take 1))):=Ext.new w.len 0 _
    have b1:At (G.new 0 (.list ((qs.map V.ref).take 1))) 0 G.h.length (.list ((qs.take 1).map V.ref)):=by rw [List.map_take]; exact At.fresh w.len 0 _
    have w1:=w.grow x1
    have mq1:All2 (isMsg (G.new 0 (.list ((qs.map V.ref).take 1)))) (qs.take 1) (ms.take 1):=by
      rcases mq with _ | ⟨r,rs⟩
      · exact .nil
      · exact .cons (r.ext x1 id) .nil
    show WS _ _ _ (G.new 0 (.list ((qs.map V.ref).take 1))).h _
    generalize G.new 0 (.list ((qs.map V.ref).take 1))=G1 at *
    refine WS.expr (WX.call (WXs.p (PXs.cons (PX.loc rfl) (PXs.cons (PX.loc rfl) PXs.nil)) ?_))
    refine wf_restart z w1.len w1.mem lm hn w1.sav (t:=E.term) (v:=E.vote) (by rw [List.getElem?_map,hE]; rfl) w1.kn hk k01 w1.cf fun D x mm=>?_
    have w2:=w1.again (by (first | lia | omega +splitDisjunctions)) hE (show n.toNat=(n - 1).toNat + 1 by (first | lia | omega +splitDisjunctions)) x rfl mm rfl
    refine ws_lay (x17:=x17) w2 ll (by show (W.mem.set _ _).length < 100; rw [List.length_set]; (first | lia | omega +splitDisjunctions)) (x.keep _ _ _ (by (first | lia | omega +splitDisjunctions)) b1) (by decide) (mq1.mono fun _ _=>isMsg.ext x (by (first | lia | omega +splitDisjunctions))) (Nat.lt_of_le_of_lt (List.length_take_le 1 ms) (by decide)) fun D2 y w3=>k2 h' D2 ?_ w3
    exact (Grow.ch x1).trans ((x.weaken fun τ f=>by (first | lia | omega +splitDisjunctions)).trans (y.weaken fun τ f=>by (first | lia | omega +splitDisjunctions)))
  · have h':cut≠2:=of_decide_eq_false h
    exact ws_lay w ll (by (first | lia | omega +splitDisjunctions)) aq (by (first | lia | omega +splitDisjunctions)) mq ml fun D y w1=>k1 h' D (y.weaken fun τ f=>by (first | lia | omega +splitDisjunctions)) w1
end
end Mine.L01
end
section
open PySem
namespace Mine.L01
variable {dp:Nat}
open L03 (isHv Sz conf_small HasMem)
section
variable {H:Hp} {r:Nat} {led:List (Int×Int)} {t:Int}
theorem dget_led:dget t (led.map ledV)=(led.lookup t).map .int:=by
  induction led with
  | nil=>rfl
  | cons p led ih =>
    obtain ⟨a,b⟩:=p
    show (if (a == t)=true then some (V.int b) else dget t (led.map ledV))=_
    rw [ih,lookup_cons]
    by_cases h:a=t
    · subst h; rw [beq_self_eq_true,if_pos rfl,if_pos rfl]; rfl
    · rw [if_neg fun e=>h (eq_of_beq e),if_neg fun e=>h e.symm]
theorem notin_led (h:H[r]?=some (.dict (led.map ledV))):cmpV .NotIn (.int t) (.ref r) H=some (.bool (!(led.lookup t).isSome)):=by
  have ⟨e1,e2⟩:=dict_at h
  refine congrArg (fun o=>Option.map V.bool (Option.map not o)) (?_:inV H (.int t) (.ref r)=some (led.lookup t).isSome)
  show els ((listAt r H).bind (inD (.int t))) (els ((dictAt r H).bind fun es=>some (dget t es).isSome) _)=_
  rw [e1,e2]
  show some (dget t (led.map ledV)).isSome=_
  rw [dget_led,Option.isSome_map]
theorem sub_led {n:Int} (h:H[r]?=some (.dict (led.map ledV))) (v:led.lookup t=some n):subV (.ref r) (.int t) H=some (.int n):=by
  have ⟨e1,e2⟩:=dict_at h
  show els ((listAt r H).bind (idxS (.int t))) (els ((dictAt r H).bind fun es=>dget t es) _)=_
  rw [e1,e2]
  show els (dget t (led.map ledV)) _=_
  rw [dget_led,v]; rfl
theorem cmp_ne2 {a b x y:Int}:cmpV .NotEq (.tup [.int a,.int b]) (.tup [.int x,.int y]) H=some (.bool (!(decide (a=x) && decide (b=y)))):=by
  refine Eq.trans (b:=some (V.bool (!(PyData.eqv (.tuple [.int a,.int b]) (.tuple [.int x,.int y]))))) rfl ?_
  simp only [PyData.eqv,PyData.eqvAll,Bool.and_true]
  rfl
theorem cmp_notin2 {k a b:Int}:cmpV .NotIn (.int k) (.tup [.int a,.int b]) H=some (.bool (!(decide (k=a) || decide (k=b)))):=L03.cmp_neg (op:=.In) (op':=.NotIn) rfl cmp_in2
end
section
variable {c:C1} {R:Rt} {G D:Gh} {W:W1} {g:Int→Int→Int} {n0:Nat} {Q:V→Hp→Prop} {n cut:Int} {m:V} {e:Nat} {x14 x15 x16 x17 x18 x19 x20:Option V}
structure OutL (c:C1) (n:Int) (E:El) (r:Msg):Prop where
  frm:r.frm=n
  resp:r.kind=6→r.rej=false→r.term=E.term∧r.to=E.vote
  asks:r.kind=5→r.term=E.term∧E.vote=n
  plain:c.pre=false→r.kind=5∨r.kind=6∨r.kind=4∧c.check=true
theorem C1.Good.flags (z:c.Good):(c.bits % 2=0↔c.pre=false)∧(c.bits=0↔c.pre=false∧c.check=false):=by
  have:=z.bits
  unfold C1.pre C1.check
  rw [decide_eq_false_iff_not,decide_eq_false_iff_not]
  (first | lia | omega +splitDisjunctions)
theorem ws_looked (z:c.Good) {E:El} {q τ:Nat} {qs:List Nat} {ms:List Msg} {A:Adr} {j:Nat} (me:Mem j A e G E) (aq:At G τ q (.list (qs.map .ref))) (mq:All2 (isMsg G) qs ms) (ml:ms.length < 50) (ok:∀ r∈ms,OutL c n E r) {QF:Fl→En→Hp→Prop}
    (k:∀ x17,WS (T1 dp) (List.drop 13 c__law_do) (dE c R n cut m e x14 x15 x16 x17 x18 x19 (some (.ref q))) G.h QF) :
    WS (T1 dp) (List.drop 12 c__law_do) (dE c R n cut m e x14 x15 x16 x17 x18 x19 (some (.ref q))) G.h QF:=by
  obtain ⟨f1,f2⟩:=C1.Good.flags z
  have he:=me.e.2
  have mql:=mq.length
  refine WS.forList (WX.p (PX.loc rfl) ⟨q,_,rfl,aq.2,ForG.list (qs.map .ref) (fun _ ρ H'=>H'=G.h∧∃ u,ρ=dE c R n cut m e x14 x15 x16 u x18 x19 (some (.ref q))) ?_ ?_ ?_ ?_ ?_⟩)
  · rw [List.length_map,mql]; simp only [lim]; (first | lia | omega +splitDisjunctions)
  · rintro k ρ H ⟨rfl,_⟩; exact aq.2
  · exact ⟨rfl,x17,rfl⟩
  · rintro i v ρ H hv ⟨rfl,u,rfl⟩
    obtain ⟨r,x,rfl,⟨er,am⟩,hx⟩:=L03.all_rows mq i v hv
    have hr:=am.2
    have o:=ok x (List.mem_of_getElem? hx)
    have kd:=o.resp
    have ka:=o.asks
    have kp:=o.plain
    have p1:PX (dE c R n cut m e x14 x15 x16 (some (.ref r)) x18 x19 (some (.ref q))) G.h (.cmp .NotEq (.attr (.loc 17) 27) (.loc 1)) (.bool (!decide (x.frm=n))):=by tb_rel
    refine WS.ite p1 (fun h=>?_) (fun _=>?_)
    · rw [o.frm,decide_eq_true rfl] at h; cases h
    have p2:PX (dE c R n cut m e x14 x15 x16 (some (.ref r)) x18 x19 (some (.ref q))) G.h (.bop true [(.cmp .Eq (.attr (.loc 17) 37) (.const (.int 6))),(.not (.attr (.loc 17) 62)),(.cmp .NotEq (.tup [(.attr (.loc 17) 80),(.attr (.loc 17) 85)]) (.tup [(.attr (.loc 13) 80),(.attr (.loc 13) 89)]))]) (.bool (decide (x.kind=6) && (!x.rej && !(decide (x.term=E.term) && decide (x.to=E.vote))))) :=
      PX.and (by tb_rel) (PX.and (by tb_rel) (PX.bop1 (PX.cmp (by tb_rel) (by tb_rel) cmp_ne2)))
    refine WS.ite p2 (fun h=>?_) (fun _=>?_)
    · have h':x.kind=6∧x.rej=false∧(¬ x.term=E.term∨¬ x.to=E.vote):=by simpa using h
      exact (h'.2.2.elim (fun f=>f (kd h'.1 h'.2.1).1) fun f=>f (kd h'.1 h'.2.1).2).elim
    have p3:PX (dE c R n cut m e x14 x15 x16 (some (.ref r)) x18 x19 (some (.ref q))) G.h (.bop true [(.cmp .Eq (.attr (.loc 17) 37) (.const (.int 5))),(.cmp .NotEq (.tup [(.attr (.loc 17) 80),(.loc 1)]) (.tup [(.attr (.loc 13) 80),(.attr (.loc 13) 89)]))]) (.bool (decide (x.kind=5) && !(decide (x.term=E.term) && decide (n=E.vote)))) :=
      PX.and (by tb_rel) (PX.bop1 (PX.cmp (by tb_rel) (by tb_rel) cmp_ne2))
    refine WS.ite p3 (fun h=>?_) (fun _=>?_)
    · have h':x.kind=5∧(¬ x.term=E.term∨¬ n=E.vote):=by simpa using h
      exact (h'.2.elim (fun f=>f (ka h'.1).1) fun f=>f (ka h'.1).2.symm).elim
    have b2:binV .Mod (.int c.bits) (.int 2) G.h=some (.int (c.bits % 2),G.h):=rfl
    have p4:PX (dE c R n cut m e x14 x15 x16 (some (.ref r)) x18 x19 (some (.ref q))) G.h (.bop true [(.cmp .Eq (.bin .Mod (.loc 11) (.const (.int 2))) (.const (.int 0))),(.cmp .NotIn (.attr (.loc 17) 37) (.tup [(.const (.int 5)),(.const (.int 6))])),(.bop false [(.cmp .Eq (.loc 11) (.const (.int 0))),(.cmp .NotEq (.attr (.loc 17) 37) (.const (.int 4)))])]) (.bool (decide (c.bits % 2=0) && (!(decide (x.kind=5) || decide (x.kind=6)) && (decide (c.bits=0) || !decide (x.kind=4))))) :=
      PX.and (PX.cmp (PX.bin (PX.loc rfl) PX.const b2) PX.const cmp_eq) (PX.and (PX.cmp (by tb_rel) (by tb_rel) cmp_notin2) (PX.bop1 (PX.or (by tb_rel) (PX.bop1 (by tb_rel)))))
    refine WS.ite p4 (fun h=>?_) (fun _=>?_)
    · have h':c.bits % 2=0∧(x.kind≠5∧x.kind≠6)∧(c.bits=0∨x.kind≠4):=by simpa using h
      have pl:=kp (f1.mp h'.1)
      have q:=f2.mp
      rcases h'.2.2 with b0 | b4
      · have:=(q b0).2
        rcases pl with a | a | ⟨a,b⟩
        · exact (h'.2.1.1 a).elim
        · exact (h'.2.1.2 a).elim
        · rw [this] at b; cases b
      · (first | lia | omega +splitDisjunctions)
    exact WS.nil ⟨rfl,_,rfl⟩
  · rintro ρ H ⟨rfl,u,rfl⟩
    exact k u
theorem ws_do_b (z:c.Good) (w:Wd c R G W g n0) (lm:W.mem.length=c.size) (hn:1≤n∧n≤c.size) {E:El} {k:Int} (hE:W.mem[(n - 1).toNat]?=some E) (he:Look R.aM G (n - 1).toNat e) (hk:W.kn[(n - 1).toNat]?=some k) (k01:k=0∨k=1) (hl:W.led.length + 1≤n0) (hl2:n0 < lim)
    (ml:E.out.length < 50) (ok:∀ r∈E.out,OutL c n E r) (L1:E.state=2→∀ x,W.led.lookup E.term=some x→x=n) (L2:E.state=2→W.led.lookup E.term=none→Led (c.hs k) g E.term n) {QF:Fl→En→Hp→Prop}
    (kk:∀ D q qs x17,Ch G D→Wd c R D { W with mem:=W.mem.set (n - 1).toNat E.flush,led:=if E.state=2∧W.led.lookup E.term=none then (E.term,n)::W.led else W.led } g n0→At D n.toNat q (.list (qs.map .ref))→All2 (isMsg D) qs E.out →
      WS (T1 (dp + 1)) (List.drop 14 c__law_do) (dE c R n cut m e x14 x15 x16 x17 x18 x19 (some (.ref q))) D.h QF) :
    WS (T1 (dp + 1)) (List.drop 10 c__law_do) (dE c R n cut m e x14 x15 x16 x17 x18 x19 x20) G.h QF:=by
  have zs:=z.size
  have j:(n - 1).toNat + 1=n.toNat:=by (first | lia | omega +splitDisjunctions)
  obtain ⟨A,me⟩:=w.mem.look he hE
  have s:St ((n - 1).toNat + 1) e G A G E:=.start (Nat.succ_ne_zero _) me
  refine WS.asg (WX.p (PX.attr (PX.loc rfl) s.he rfl) ?_)
  obtain ⟨s2,aq,mq⟩:=L03.St.flush s
  have hh:=(s.new ((n - 1).toNat + 1) (.list [])).he
  refine WS.setattr (WX.list (WXs.nil ⟨e,4,efs A E,_,PX.loc rfl,hh,rfl,rfl,?_⟩))
  have e2:fset 51 (.ref G.h.length) (efs A E)=efs { A with q:=G.h.length,qs:=[] } E.flush:=rfl
  rw [e2]
  show WS (T1 (dp + 1)) _ _ ((G.new ((n - 1).toNat + 1) (.list [])).put e (.inst 4 (efs { A with q:=G.h.length,qs:=[] } E.flush))).h _
  generalize (G.new ((n - 1).toNat + 1) (.list [])).put e (.inst 4 (efs { A with q:=G.h.length,qs:=[] } E.flush))=G2 at *
  have w2:=w.member (by (first | lia | omega +splitDisjunctions)) hE he s2 rfl
  have ch2:Ch G G2:=St.ch s2 (by (first | lia | omega +splitDisjunctions))
  have he2:=s2.mem.e.2
  refine ws_looked z s2.mem aq mq ml (fun r hr=>⟨(ok r hr).frm,(ok r hr).resp,(ok r hr).asks,(ok r hr).plain⟩) fun x17=>?_
  rw [j] at aq
  have pst:PX (dE c R n cut m e x14 x15 x16 x17 x18 x19 (some (.ref A.q))) G2.h (.cmp .Eq (.attr (.loc 13) 72) (.const (.int 2))) (.bool (decide (E.state=2))):=PX.cmp (PX.attr (PX.loc rfl) he2 rfl) PX.const cmp_eq
  refine WS.ite pst (fun h=>?_) (fun h=>?_)
  · have h2:=of_decide_eq_true h
    have pt:PX (dE c R n cut m e x14 x15 x16 x17 x18 x19 (some (.ref A.q))) G2.h (.attr (.loc 13) 80) (.int E.term):=PX.attr (PX.loc rfl) he2 rfl
    have dl:=w2.led
    refine WS.ite (PX.cmp pt (PX.loc rfl) (notin_led dl.2)) (fun h=>?_) (fun h=>?_)
    · have hno:W.led.lookup E.term=none:=by
        have h':(!(W.led.lookup E.term).isSome)=true:=h
        rcases hq:W.led.lookup E.term with _ | x
        · rfl
        · rw [hq] at h'; cases h'
      obtain ⟨rk,sc,hh⟩:=Cfs.at w2.cf k01
      have sk:subV (.ref R.aK) (.int (n - 1)) G2.h=some (.int k):=L03.sub_at w2.kn.2 (by (first | lia | omega +splitDisjunctions)) (by rw [List.getElem?_map,hk]; rfl)
      refine WS.iteW (WX.not (WX.call (WXs.p (PXs.cons (PX.loc rfl) (PXs.cons pt (PXs.cons (PX.loc rfl) (PXs.cons (PX.sub (PX.loc rfl) (PX.sub (PX.loc rfl) (by tb_rel) sk) sc) PXs.nil)))) ?_)))
      refine wf_wins w2.giv hh (C1.Good.sz z k) (by (first | lia | omega +splitDisjunctions)) (L2 h2 hno) ⟨true,rfl,_,rfl,fun f=>nB f,fun _=>?_⟩
      have b5:=w2.led
      refine WS.setitem (WX.p (PX.loc rfl) ⟨.ref R.aD,.int E.term,_,PX.loc rfl,pt,set_votes b5.2 (by rw [List.length_map]; show W.led.length < lim; (first | lia | omega +splitDisjunctions)),?_⟩)
      have y:Ext (·=105) G2 (G2.put R.aD (.dict (dset E.term (.int n) (W.led.map ledV)))):=.put w2.len b5 rfl
      have b5':At (G2.put R.aD (.dict (dset E.term (.int n) (W.led.map ledV)))) 105 R.aD (.dict (((E.term,n)::W.led).map ledV)):=b5.put
      have he3:=(y.keep _ _ _ (by (first | lia | omega +splitDisjunctions)) s2.mem.e).2
      show WS _ _ _ (G2.put R.aD (.dict (dset E.term (.int n) (W.led.map ledV)))).h _
      generalize G2.put R.aD (.dict (dset E.term (.int n) (W.led.map ledV)))=G3 at *
      have sl:subV (.ref R.aD) (.int E.term) G3.h=some (.int n):=sub_led (n:=n) b5'.2 (by rw [lookup_cons,if_pos rfl])
      refine WS.ite (PX.cmp (PX.sub (PX.loc rfl) (PX.attr (PX.loc rfl) he3 rfl) sl) (PX.loc rfl) cmp_ne) (fun f=>?_) (fun _=>?_)
      · rw [decide_eq_true rfl] at f; cases f
      · refine kk G3 A.q A.qs x17 (ch2.trans (y.weaken fun τ f=>by (first | lia | omega +splitDisjunctions))) ?_ (y.keep _ _ _ (by (first | lia | omega +splitDisjunctions)) aq) (mq.mono fun _ _=>isMsg.ext y (by decide))
        rw [if_pos ⟨h2,hno⟩]
        exact ⟨y.len,w2.mem.hi y (by decide) (by show (W.mem.set _ _).length < 100; rw [List.length_set]; (first | lia | omega +splitDisjunctions)) (fun _ f=>by rw [f]; decide),y.keep _ _ _ (by decide) w2.sav,w2.ly.ext y (by decide) (by decide),y.keep _ _ _ (by decide) w2.left,b5',hl,w2.giv.ext y (by decide),y.keep _ _ _ (by decide) w2.kn,w2.cf.ext y (by decide)⟩
    · have hyes:W.led.lookup E.term=some n:=by
        have h':(!(W.led.lookup E.term).isSome)=false:=h
        rcases hq:W.led.lookup E.term with _ | x
        · rw [hq] at h'; cases h'
        · rw [L1 h2 x hq]
      refine WS.ite (PX.cmp (PX.sub (PX.loc rfl) pt (sub_led (n:=n) dl.2 hyes)) (PX.loc rfl) cmp_ne) (fun f=>?_) (fun _=>?_)
      · rw [decide_eq_true rfl] at f; cases f
      · refine kk G2 A.q A.qs x17 ch2 ?_ aq mq
        rw [if_neg fun q=>nS (q.2.symm.trans hyes)]; exact w2
  · have h2:=of_decide_eq_false h
    refine kk G2 A.q A.qs x17 ch2 ?_ aq mq
    rw [if_neg fun q=>h2 q.1]; exact w2
end
end Mine.L01
end
section
open PySem
namespace Mine.L01
variable {dp:Nat}
open L03 (isHv Sz conf_small HasMem)
section
variable {c:C1} {R:Rt} {G D:Gh} {W:W1} {g:Int→Int→Int} {n0:Nat} {Q:V→Hp→Prop} {n cut:Int} {m:V} {e:Nat} {x14 x15 x16 x17 x18 x19 x20:Option V}
theorem Gv.up {a:Nat} (w:Gv a G g n0):Gv a G g (n0 + 1):=by
  rcases w with ⟨b,e⟩ | ⟨es,b,l,e⟩
  · exact .nil b e
  · exact .log es b (Nat.le_succ_of_le l) e
theorem tget_cons {t n t' n':Int} {v:V} {es:List (List Int×V)}:tget [t',n'] (([t,n],v)::es)=if t'=t∧n'=n then some v else tget [t',n'] es:=by
  show (if ([t,n] == [t',n'])=true then some v else tget [t',n'] es)=_
  by_cases h:t'=t∧n'=n
  · obtain ⟨rfl,rfl⟩:=h
    rw [beq_self_eq_true,if_pos rfl,if_pos ⟨rfl,rfl⟩]
  · rw [if_neg h,if_neg fun q=>h ?_]
    have:=eq_of_beq q
    injection this with h1 h2
    injection h2 with h2 _
    exact ⟨h1.symm,h2.symm⟩
inductive GivK (a:Nat) (G:Gh) (g:Int→Int→Int) (t n v:Int) (n0:Nat):Prop
  | mk (o p:O):At G 106 a p→setItemV (.ref a) (.tup [.int t,.int n]) (.int v) G.h=some (G.put a o).h→Gv a (G.put a o) (gset g t n v) (n0 + 1)→GivK a G g t n v n0
theorem set_given {a:Nat} {t n v:Int} (w:Gv a G g n0) (l:n0 < lim) (hv:v≠0):GivK a G g t n v n0:=by
  rcases w with ⟨b,e⟩ | ⟨es,b,le,e⟩
  · obtain ⟨e1,e2⟩:=dict_at b.2
    have e3:tdictAt a G.h=some []:=by unfold tdictAt; rw [b.2]; rfl
    refine ⟨.tdict [([t,n],.int v)],_,b,?_,.log [([t,n],.int v)] b.put (Nat.succ_le_succ (Nat.zero_le _)) fun t' n'=>?_⟩
    · show els ((listAt a G.h).bind _) (els ((dictAt a G.h).bind _) ((tdictAt a G.h).bind _))=_
      rw [e1,e2,e3]; rfl
    · rw [tget_cons]
      unfold gset
      by_cases q:t'=t∧n'=n
      · rw [if_pos q,if_pos q,if_neg hv]
      · rw [if_neg q,if_neg q,e,if_pos rfl]; rfl
  · obtain ⟨e1,e2,e3⟩:=tdict_at b.2
    refine ⟨.tdict (([t,n],.int v)::es),_,b,?_,.log (([t,n],.int v)::es) b.put (Nat.succ_le_succ le) fun t' n'=>?_⟩
    · show els ((listAt a G.h).bind _) (els ((dictAt a G.h).bind _) ((tdictAt a G.h).bind fun es=>(keyT (.tup [.int t,.int n])).bind fun k=>cond (decide (es.length < lim)) (some (G.h.set a (.tdict ((k,.int v)::es)))) none))=_
      rw [e1,e2,e3]
      show cond (decide (es.length < lim)) (some (G.h.set a (.tdict (([t,n],.int v)::es)))) none=_
      rw [decide_eq_true (by (first | lia | omega +splitDisjunctions))]; rfl
    · rw [tget_cons]
      unfold gset
      by_cases q:t'=t∧n'=n
      · rw [if_pos q,if_pos q,if_neg hv]
      · rw [if_neg q,if_neg q]; exact e t' n'
theorem gset_zero {E E':El} {rs:List Msg} (o:Mine1 g E) (tr:Trg g E E' rs) (h:E'.vote=0):gset g E'.term E.nid E'.vote=g:=by
  funext t' n'
  unfold gset
  split
  · rename_i q
    obtain ⟨rfl,rfl⟩:=q
    have h1:=tr.term
    by_cases ht:E'.term=E.term
    · rw [ht,o.1]
      by_cases hv:E.vote=0
      · rw [h,hv]
      · exact tr.vote ht hv
    · rw [h,o.2 E'.term (by (first | lia | omega +splitDisjunctions))]
  · rfl
noncomputable def updW (W:W1) (n:Int) (E':El):W1:={ W with mem:=W.mem.set (n - 1).toNat E'.flush,ly:=W.ly++E'.out,led:=ledP W.led E' }
structure AfterDo (W:W1) (n cut:Int) (E':El) (g:Int→Int→Int) (W':W1) (g':Int→Int→Int):Prop where
  left:W'.left=W.left
  ly:W'.ly.length≤W.ly.length + 10
  eq:cut=0→W'=updW W n E'∧g'=gset g E'.term n E'.vote
theorem fresh_ok (z:c.Good) {k t v:Int} (hn:1≤n∧n≤c.size) (ht:1≤t):Ok1 c k (freshE c k n t v):=⟨hn,rfl,rfl,rfl,rfl,ht,rfl,VK.nil,.inl rfl⟩
theorem fresh_cand {k t v:Int}:Cand g (freshE c k n t v):=fun h=>by cases h
theorem ws_do_tail (z:c.Good) (gd:Good1 c g W) (w:Wd c R G W g n0) (ll:W.ly.length + 200 < lim) (hn:1≤n∧n≤c.size) {E E':El} {k:Int} (hE:W.mem[(n - 1).toNat]?=some E) (nid:E.nid=n) (he:Look R.aM G (n - 1).toNat e) (hk:W.kn[(n - 1).toNat]?=some k)
    (d:Done c g E E') {A:Adr} {G1:Gh} (s:St ((n - 1).toNat + 1) e G A G1 E') (hl2:n0 + 2 < lim)
    (kk:∀ D W' g',Ch G D→Wd c R D W' g' (n0 + 1)→Good1 c g' W'→AfterDo W n cut E' g W' g'→Q (.bool true) D.h) :
    WS (T1 (dp + 8)) (List.drop 5 c__law_do) (dE c R n cut m e x14 x15 x16 x17 x18 x19 x20) G1.h fun fl _ H'=>Q (outOf fl) H':=by
  have zs:=z.size
  have lm:=gd.lenM
  have j:(n - 1).toNat + 1=n.toNat:=by (first | lia | omega +splitDisjunctions)
  obtain ⟨okE,_⟩:=gd.ok _ E k hE hk
  obtain ⟨m1,cd,ld⟩:=gd.s1 _ E hE
  have k01:=gd.kn k (List.mem_of_getElem? hk)
  have tr:=d.tr
  have hi:=(List.getElem?_eq_some_iff.mp hE).1
  have sav1:=s.ext.keep _ _ _ (by (first | lia | omega +splitDisjunctions)) w.sav
  have kset:W.kn.set (n - 1).toNat k=W.kn:=set_self hk
  refine WS.ite (by tb_rel) (fun h=>?_) (fun h=>?_)
  ·
    have hc:cut=1:=of_decide_eq_true h
    refine WS.expr (WX.call (WXs.p (PXs.cons (PX.loc rfl) (PXs.cons (PX.loc rfl) PXs.nil)) ?_))
    refine wf_restart z s.ext.len (w.mem.member (by (first | lia | omega +splitDisjunctions)) hi he s) (by rw [List.length_set]; exact lm) hn sav1 (t:=E.term) (v:=E.vote) (by rw [List.getElem?_map,hE]; rfl) (s.ext.keep _ _ _ (by (first | lia | omega +splitDisjunctions)) w.kn) hk k01 (w.cf.ext s.ext (by (first | lia | omega +splitDisjunctions))) fun D x mm=>?_
    have X:Ext (fun τ=>τ=101∨τ=n.toNat) G D:=(s.ext.weaken fun _ f=>.inr (f.trans j)).trans x
    have w1:=w.again (by (first | lia | omega +splitDisjunctions)) hE (show n.toNat=(n - 1).toNat + 1 by (first | lia | omega +splitDisjunctions)) X (List.set_set ..) mm rfl
    have g1:=good1_put gd hE hk k01 (fresh_ok z (k:=k) (v:=E.vote) hn okE.term) nid.symm ⟨by show g E.term n=E.vote; rw [← nid]; exact m1.1,fun t ht=>by show g t n=0; rw [← nid]; exact m1.2 t ht⟩ fresh_cand fun q=>by cases q
    rw [kset] at g1
    refine WS.ret (WX.p PX.const (kk D _ g (X.weaken fun τ f=>by (first | lia | omega +splitDisjunctions)) ⟨w1.len,w1.mem,w1.sav,w1.ly,w1.left,w1.led,Nat.le_succ_of_le w1.ledl,w1.giv.up,w1.kn,w1.cf⟩ g1 ⟨rfl,Nat.le_add_right _ _,fun q=>by (first | lia | omega +splitDisjunctions)⟩))
  · have hc:cut≠1:=of_decide_eq_false h
    have he1:=s.he
    have ss:subV (.ref R.aS) (.int (n - 1)) G1.h=some (.tup [.int E.term,.int E.vote]):=L03.sub_at sav1.2 (by (first | lia | omega +splitDisjunctions)) (by rw [List.getElem?_map,hE]; rfl)
    refine WS.unpack (WX.p (PX.sub (PX.loc rfl) (by tb_rel) ss) ⟨_,_,rfl,rfl,?_⟩)
    have e0:setLoc (setLoc (dE c R n cut m e x14 x15 x16 x17 x18 x19 x20) 18 (.int E.term)) 19 (.int E.vote)=dE c R n cut m e x14 x15 x16 x17 (some (.int E.term)) (some (.int E.vote)) x20:=rfl
    rw [e0]
    have pt:PX (dE c R n cut m e x14 x15 x16 x17 (some (.int E.term)) (some (.int E.vote)) x20) G1.h (.attr (.loc 13) 80) (.int E'.term):=PX.attr (PX.loc rfl) he1 rfl
    have pv:PX (dE c R n cut m e x14 x15 x16 x17 (some (.int E.term)) (some (.int E.vote)) x20) G1.h (.attr (.loc 13) 89) (.int E'.vote):=PX.attr (PX.loc rfl) he1 rfl
    have pc:PX (dE c R n cut m e x14 x15 x16 x17 (some (.int E.term)) (some (.int E.vote)) x20) G1.h (.bop false [(.cmp .Lt (.attr (.loc 13) 80) (.loc 18)),(.bop true [(.cmp .Eq (.attr (.loc 13) 80) (.loc 18)),(.cmp .NotEq (.loc 19) (.const (.int 0))),(.cmp .NotEq (.attr (.loc 13) 89) (.loc 19))])]) (.bool (decide (E'.term < E.term) || (decide (E'.term=E.term) && (!decide (E.vote=0) && !decide (E'.vote=E.vote))))) :=
      PX.or (PX.cmp pt (PX.loc rfl) cmp_lt) (PX.bop1 (PX.and (PX.cmp pt (PX.loc rfl) cmp_eq) (PX.and (PX.cmp (PX.loc rfl) PX.const cmp_ne) (PX.bop1 (PX.cmp pv (PX.loc rfl) cmp_ne)))))
    refine WS.ite pc (fun f=>?_) (fun _=>?_)
    · have f':E'.term < E.term∨E'.term=E.term∧E.vote≠0∧E'.vote≠E.vote:=by simpa using f
      have:=tr.term
      rcases f' with f' | ⟨a,b,d⟩
      · (first | lia | omega +splitDisjunctions)
      · exact (d (tr.vote a b)).elim
    refine WS.setitem (WX.p (PX.tup (PXs.cons pt (PXs.cons pv PXs.nil))) ⟨.ref R.aS,.int (n - 1),_,PX.loc rfl,by tb_rel,L03.setitem_at sav1.2 (by (first | lia | omega +splitDisjunctions)) (by rw [List.length_map]; exact hi),?_⟩)
    obtain ⟨w2,x2⟩:=w.saved (by (first | lia | omega +splitDisjunctions)) hE he s
    have he2:=Look.ext he w.mem x2 (by (first | lia | omega +splitDisjunctions))
    show WS _ _ _ (G1.put R.aS (.list ((W.mem.map savV).set (n - 1).toNat (savV E')))).h _
    generalize G1.put R.aS (.list ((W.mem.map savV).set (n - 1).toNat (savV E')))=G2 at *
    have hE':(W.mem.set (n - 1).toNat E')[(n - 1).toNat]?=some E':=List.getElem?_set_self hi
    obtain ⟨A2,me2⟩:=w2.mem.look he2 hE'
    have h2e:=me2.e.2
    have rest:∀ D,Ext (·=106) G2 D→Wd c R D { W with mem:=W.mem.set (n - 1).toNat E' } (gset g E'.term E.nid E'.vote) (n0 + 1) →
        WS (T1 (dp + 8)) (List.drop 10 c__law_do) (dE c R n cut m e x14 x15 x16 x17 (some (.int E.term)) (some (.int E.vote)) x20) D.h fun fl _ H'=>Q (outOf fl) H':=by
      intro D y w3
      have lead:=fun h2=>gd.lead z hE hk tr h2
      have ot:=okE.term
      refine ws_do_b (dp:=dp + 7) z w3 (by show (W.mem.set _ _).length=_; rw [List.length_set]; exact lm) hn hE' (Look.ext he2 w2.mem y (by decide)) hk k01 (Nat.succ_le_succ w.ledl) (by (first | lia | omega +splitDisjunctions)) (by have:=d.len; (first | lia | omega +splitDisjunctions)) (fun r hr=>?_) (fun h2 x hx=>((lead h2).1 x hx).trans nid) (fun h2 hx=>by rw [← nid]; exact (lead h2).2 hx) fun D2 q qs x17 y2 w4 aq mq=>?_
      · refine ⟨(tr.frm r hr).trans nid,tr.resp r hr,fun h5=>?_,fun hp=>?_⟩
        · obtain ⟨a,b⟩:=tr.asks r hr h5
          exact ⟨a,b.trans nid⟩
        · have kd:=(d.out r hr).kind
          have ks:=tr.kinds r hr
          rw [hp] at kd
          rcases ks with a | a | a | a | a
          · refine .inr (.inr ⟨a,?_⟩)
            rcases kd with ⟨_,b | b⟩ | b | b | b | b | ⟨_,b⟩
            · cases b
            · exact b
            all_goals first | cases b | (exfalso; (first | lia | omega +splitDisjunctions))
          · exact .inl a
          · exact .inr (.inl a)
          · rcases kd with ⟨b,_⟩ | b | b | b | b | ⟨_,b⟩
            all_goals first | cases b | (exfalso; (first | lia | omega +splitDisjunctions))
          · rcases kd with ⟨b,_⟩ | b | b | b | b | ⟨_,b⟩
            all_goals first | cases b | (exfalso; (first | lia | omega +splitDisjunctions))
      · have X:Ch G D2:=(Ch.of x2 fun τ f=>by (first | lia | omega +splitDisjunctions)).trans ((Ch.of y fun τ f=>by (first | lia | omega +splitDisjunctions)).trans y2)
        have upd:=good1_upd z gd hE hk tr d.vs (ms:=E'.out) fun r hr=>⟨hr,d.out r hr⟩
        have upd1:=good1_upd z gd hE hk tr d.vs (ms:=E'.out.take 1) fun r hr=>⟨List.mem_of_mem_take hr,d.out r (List.mem_of_mem_take hr)⟩
        have el:(if E'.state=2∧W.led.lookup E'.term=none then (E'.term,n)::W.led else W.led)=ledP W.led E':=by unfold ledP; rw [tr.nid,nid]
        have w5:Wd c R D2 { W with mem:=W.mem.set (n - 1).toNat E'.flush,led:=ledP W.led E' } (gset g E'.term E.nid E'.vote) (n0 + 1):=by
          rw [← el,← List.set_set (a:=E') (b:=E'.flush)]; exact w4
        have hEf:(W.mem.set (n - 1).toNat E'.flush)[(n - 1).toNat]?=some E'.flush:=List.getElem?_set_self hi
        have dl:=d.len
        refine ws_do_c z w5 (by show W.ly.length + 100 < lim; (first | lia | omega +splitDisjunctions)) (by show (W.mem.set _ _).length=_; rw [List.length_set]; exact lm) hn hEf hk k01 aq mq (by (first | lia | omega +splitDisjunctions)) (fun hc2 D3 y3 w6=>?_) fun hc2 D3 y3 w6=>?_
        · refine kk D3 _ _ (X.trans y3) w6 upd ⟨rfl,?_,fun _=>⟨rfl,by rw [nid]⟩⟩
          show (W.ly++E'.out).length≤_
          rw [List.length_append]; (first | lia | omega +splitDisjunctions)
        · have mine:=mine_set m1 tr
          have q:=good1_put upd1 hEf hk k01 (fresh_ok z (k:=k) (v:=E'.vote) hn (Int.le_trans okE.term tr.term)) (show n=E'.nid from (tr.nid.trans nid).symm) ⟨by rw [show (freshE c k n E'.term E'.vote).nid=E'.nid from (tr.nid.trans nid).symm]; exact mine.1,fun t ht=>by rw [show (freshE c k n E'.term E'.vote).nid=E'.nid from (tr.nid.trans nid).symm]; exact mine.2 t ht⟩ fresh_cand fun q=>by cases q
          have ek:({ W with mem:=W.mem.set (n - 1).toNat E'.flush,ly:=W.ly++E'.out.take 1,led:=ledP W.led E' }:W1).kn.set (n - 1).toNat k=W.kn:=kset
          rw [ek] at q
          refine kk D3 _ _ (X.trans y3) w6 q ⟨rfl,?_,fun f=>by (first | lia | omega +splitDisjunctions)⟩
          show (W.ly++E'.out.take 1).length≤_
          rw [List.length_append]
          have:=List.length_take_le 1 E'.out
          (first | lia | omega +splitDisjunctions)
    have pv2:PX (dE c R n cut m e x14 x15 x16 x17 (some (.int E.term)) (some (.int E.vote)) x20) G2.h (.attr (.loc 13) 89) (.int E'.vote):=PX.attr (PX.loc rfl) h2e rfl
    have pt2:PX (dE c R n cut m e x14 x15 x16 x17 (some (.int E.term)) (some (.int E.vote)) x20) G2.h (.attr (.loc 13) 80) (.int E'.term):=PX.attr (PX.loc rfl) h2e rfl
    refine WS.ite (PX.cmp pv2 PX.const cmp_ne) (fun f=>?_) (fun f=>?_)
    · have hv:E'.vote≠0:=by simpa using f
      obtain ⟨o,p,ap,es,gv⟩:=set_given (t:=E'.term) (n:=n) w2.giv (by (first | lia | omega +splitDisjunctions)) hv
      refine WS.setitem (WX.p pv2 ⟨.ref R.aG,.tup [.int E'.term,.int n],_,PX.loc rfl,PX.tup (PXs.cons pt2 (PXs.cons (PX.loc rfl) PXs.nil)),es,?_⟩)
      have y:Ext (·=106) G2 (G2.put R.aG o):=.put w2.len ap rfl
      refine rest (G2.put R.aG o) y ⟨y.len,w2.mem.hi y (by decide) (by show (W.mem.set _ _).length < 100; rw [List.length_set]; (first | lia | omega +splitDisjunctions)) (fun _ f=>by rw [f]; decide),y.keep _ _ _ (by decide) w2.sav,w2.ly.ext y (by decide) (by decide),y.keep _ _ _ (by decide) w2.left,y.keep _ _ _ (by decide) w2.led,Nat.le_succ_of_le w2.ledl,by rw [nid]; exact gv,y.keep _ _ _ (by decide) w2.kn,w2.cf.ext y (by decide)⟩
    · have hv:E'.vote=0:=by simpa using f
      refine rest G2 (.refl w2.len) ⟨w2.len,w2.mem,w2.sav,w2.ly,w2.left,w2.led,Nat.le_succ_of_le w2.ledl,by rw [gset_zero m1 tr hv]; exact w2.giv.up,w2.kn,w2.cf⟩
end
end Mine.L01
end
section
open PySem
namespace Mine.L01
variable {dp:Nat}
open L03 (isHv Sz conf_small HasMem)
section
variable {c:C1} {R:Rt} {G D:Gh} {W:W1} {g:Int→Int→Int} {n0:Nat} {Q:V→Hp→Prop} {n cut:Int} {e:Nat}
noncomputable def triV (p:Int×Int×Int):V:=.tup [.int p.1,.int p.2.1,.int p.2.2]
noncomputable def triD (p:Int×Int×Int):PyData:=.tuple [.int p.1,.int p.2.1,.int p.2.2]
theorem toDs_tri:∀ l:List (Int×Int×Int),toDs (toD 2) (l.map triV)=some (l.map triD)
  | []=>rfl
  | p::l=>by
    refine Eq.trans (b:=(toDs (toD 2) (l.map triV)).map fun ds=>triD p::ds) rfl ?_
    rw [toDs_tri l]; rfl
theorem eqv_tri (p:Int×Int×Int):PyData.eqv (triD p) (triD p)=true:=by
  unfold triD
  simp only [PyData.eqv,PyData.eqvAll]
  simp
theorem eqv_tris:∀ l:List (Int×Int×Int),PyData.eqvAll (l.map triD) (l.map triD)=true
  | []=>by simp only [List.map_nil,PyData.eqvAll]
  | p::l=>by rw [List.map_cons,PyData.eqvAll,eqv_tri,eqv_tris l]; rfl
theorem cmp_tris {H:Hp} {a b:Nat} {l:List (Int×Int×Int)} (h:H[a]?=some (.list (l.map triV))) (k:H[b]?=some (.list (l.map triV))):cmpV .NotEq (.ref a) (.ref b) H=some (.bool false):=by
  refine L03.cmp_neg (op:=.Eq) (op':=.NotEq) (t:=true) rfl ?_
  exact congrArg (Option.map V.bool) ((L03.eq_of rfl (L03.dOf_at h (toDs_tri l)) (L03.dOf_at k (toDs_tri l))).trans (congrArg some (by rw [PyData.eqv,eqv_tris])))
theorem cmp_eq3 {a b d:Int} {H:Hp}:cmpV .NotEq (.tup [.int a,.int b,.int d]) (.tup [.int a,.int b,.int d]) H=some (.bool false):=by
  rw [L03.cmp_ne3,decide_eq_true rfl,decide_eq_true rfl,decide_eq_true rfl]; rfl
noncomputable def tri (r:Msg):Int×Int×Int:=(r.kind,r.to,r.term)
inductive isIn (G:Gh):V→Option Msg→Prop
  | tick:isIn G .none none
  | msg (r:Nat) (m:Msg):isMsg G r m→isIn G (.ref r) (some m)
theorem ok1_fit (z:c.Good) {k:Int} {E:El} (h:Ok1 c k E):E.Fit:=by
  have sz:=C1.Good.sz z k
  have v:E.votes.length≤c.size:=by
    have:=L03.nodup_le c.size (E.votes.map (·.1)) h.vs.v.nodup fun x hx=>by
      obtain ⟨p,hp,e⟩:=List.mem_map.mp hx
      rw [← e]; exact h.vs.v.keys p hp
    rwa [List.length_map] at this
  have n:=h.nid
  have l:=z.size
  refine ⟨by rw [h.conf]; exact conf_small sz,by rw [h.conf]; exact (z.hv k).members _ n,by (first | lia | omega +splitDisjunctions),by have:=h.term; (first | lia | omega +splitDisjunctions),by (first | lia | omega +splitDisjunctions),by rw [h.out]; decide⟩
theorem C1.Good.bit (z:c.Good):decide (c.bits=0)=!(c.check || c.pre):=by
  have h:=(C1.Good.flags z).2
  rw [Bool.eq_iff_iff,decide_eq_true_iff,h]
  cases c.check<;>cases c.pre<;>simp
theorem wf_do (z:c.Good) (gd:Good1 c g W) (w:Wd c R G W g n0) (ll:W.ly.length + 200 < lim) (hn:1≤n∧n≤c.size) (hl2:n0 + 2 < lim) {mv:V} {m:Option Msg} (im:isIn G mv m) (fd:Fed c g n m)
    (kk:∀ D W' g',Ch G D→Wd c R D W' g' (n0 + 1)→Good1 c g' W'→(∀ E,W.mem[(n - 1).toNat]?=some E→AfterDo W n cut (actE E m) g W' g')→Q (.bool true) D.h):WF (T1 (dp + 15)) 66 [wV c R,.int n,mv,.int cut] G.h Q:=by
  have zs:=z.size
  have j:(n - 1).toNat + 1=n.toNat:=by (first | lia | omega +splitDisjunctions)
  obtain ⟨E,k,hE,hk,nid⟩:=gd.at hn
  obtain ⟨okE,_⟩:=gd.ok _ E k hE hk
  obtain ⟨es,b1,b2,b3⟩:=id w.mem
  obtain ⟨e,A,he,me⟩:=b3 _ E hE
  have lk:Look R.aM G (n - 1).toNat e:=look_of b1 he
  have s:St ((n - 1).toNat + 1) e G A G E:=.start (Nat.succ_ne_zero _) me
  have d:=doing z gd hE hk (m:=m) (by rw [nid]; exact fd)
  have hse:=s.he
  have sub:subV (.ref R.aM) (.int (n - 1)) G.h=some (.ref e):=L03.sub_at b1.2 (by (first | lia | omega +splitDisjunctions)) (by rw [List.getElem?_map,he]; rfl)
  refine WF.go rfl rfl ?_
  refine WS.unpack (WX.p (PX.loc rfl) ⟨_,_,rfl,rfl,?_⟩)
  refine WS.asg (WX.p (PX.sub (PX.loc rfl) (by tb_rel) sub) ?_)
  have e0:∀ a b,WS (T1 (dp + 14)) (List.drop 2 c__law_do) (dE c R n cut mv e none none none none none none none) a b→WS (T1 (dp + 14)) (List.drop 2 c__law_do) (setLoc (setLoc (setLoc (setLoc (setLoc (setLoc (setLoc (setLoc (setLoc (setLoc (List.map some [wV c R,.int n,mv,.int cut]++List.replicate 17 none) 4 (.ref R.aM)) 5 (.ref R.aS)) 6 (.ref R.aL)) 7 (.ref R.aD)) 8 (.ref R.aG)) 9 (.ref R.aK)) 10 (.ref R.aC)) 11 (.int c.bits)) 12 (.ref R.aF)) 13 (.ref e)) a b:=fun _ _ h=>h
  refine e0 _ _ ?_
  have p14:PX (dE c R n cut mv e none none none none none none none) G.h (.tup [(.attr (.loc 13) 80),(.attr (.loc 13) 89),(.attr (.loc 13) 72)]) (.tup [.int E.term,.int E.vote,.int E.state]):=by tb_rel
  refine WS.asg (WX.p p14 ?_)
  have b2:binV .Mod (.int (c.bits / 2)) (.int 2) G.h=some (.int (c.bits / 2 % 2),G.h):=rfl
  have b3':binV .FloorDiv (.int c.bits) (.int 2) G.h=some (.int (c.bits / 2),G.h):=rfl
  have lease:(decide (c.bits / 2 % 2=1) && (!decide (E.leader=0) && decide (E.elapsed < 2)))=E.inLease:=by
    unfold El.inLease
    rw [okE.check,Bool.and_assoc]; rfl
  have p15:PX (dE c R n cut mv e (some (.tup [.int E.term,.int E.vote,.int E.state])) none none none none none none) G.h (.bop true [(.cmp .Eq (.bin .Mod (.bin .FloorDiv (.loc 11) (.const (.int 2))) (.const (.int 2))) (.const (.int 1))),(.cmp .NotEq (.attr (.loc 13) 41) (.const (.int 0))),(.cmp .Lt (.attr (.loc 13) 22) (.const (.int 2)))]) (.bool E.inLease):=by
    rw [← lease]
    exact PX.and (PX.cmp (PX.bin (PX.bin (PX.loc rfl) PX.const b3') PX.const b2) PX.const cmp_eq) (PX.and (by tb_rel) (PX.bop1 (by tb_rel)))
  refine WS.asg (WX.p p15 ?_)
  have rest:∀ D A' x16,St ((n - 1).toNat + 1) e G A' D (actE E m)→WS (T1 (dp + 14)) (List.drop 5 c__law_do) (dE c R n cut mv e (some (.tup [.int E.term,.int E.vote,.int E.state])) (some (.bool E.inLease)) x16 none none none none) D.h fun fl _ H'=>Q (outOf fl) H' :=
    fun D A' x16 s1=>ws_do_tail (dp:=dp + 6) z gd w ll hn hE nid lk hk d s1 hl2 fun D W' g' x w' g1 ad=>kk D W' g' x w' g1 fun F hF=>by rw [show F=E from Option.some.inj (hF.symm.trans hE)]; exact ad
  have e1:∀ a b,WS (T1 (dp + 14)) (List.drop 4 c__law_do) (dE c R n cut mv e (some (.tup [.int E.term,.int E.vote,.int E.state])) (some (.bool E.inLease)) none none none none none) a b→WS (T1 (dp + 14)) (List.drop 4 c__law_do) (setLoc (setLoc (dE c R n cut mv e none none none none none none none) 14 (.tup [.int E.term,.int E.vote,.int E.state])) 15 (.bool E.inLease)) a b:=fun _ _ h=>h
  refine e1 _ _ ?_
  cases im with
  | tick =>
    refine WS.ite (b:=true) (PX.cmp (PX.loc rfl) PX.const rfl) (fun _=>?_) (fun h=>nB h.symm)
    exact WS.expr (WX.meth (PX.loc rfl) hse rfl rfl PXs.nil (wf_tick s (ok1_fit z okE) okE.vs.st fun A1 G1 s1=>rest G1 A1 none s1))
  | msg r m im =>
    refine WS.ite (b:=false) (PX.cmp (PX.loc rfl) PX.const rfl) (fun h=>nB h) (fun _=>?_)
    have ft:m.Fit:=by
      cases fd with
      | hup=>exact ⟨.inl rfl,Int.le_refl _⟩
      | told m hm _ _=>exact ⟨hm.kinds,by have:=hm.term; (first | lia | omega +splitDisjunctions)⟩
    refine WS.expr (WX.meth (PX.loc rfl) hse rfl rfl (PXs.cons (PX.loc rfl) PXs.nil) (wf_step s (ok1_fit z okE) im okE.vs.st ft fun A1 G1 s1=>?_))
    have s1:St ((n - 1).toNat + 1) e G A1 G1 (actE E (some m)):=s1
    have next:∀ D A' x16,St ((n - 1).toNat + 1) e G A' D (actE E (some m))→WS (T1 (dp + 14)) (.ite (.bop true [(.loc 15),(.cmp .Eq (.attr (.loc 2) 37) (.const (.int 5))),(.cmp .Gt (.attr (.loc 2) 80) (.sub (.loc 14) (.const (.int 0)))),(.cmp .Eq (.attr (.loc 2) 18) (.const (.bytes [])))]) [.ite (.bop false [(.cmp .NotEq (.attr (.loc 13) 51) (.list [])),(.cmp .NotEq (.tup [(.attr (.loc 13) 80),(.attr (.loc 13) 89),(.attr (.loc 13) 72)]) (.loc 14))]) [.ret (.const (.bool false))] []] []::List.drop 5 c__law_do)
        (dE c R n cut (.ref r) e (some (.tup [.int E.term,.int E.vote,.int E.state])) (some (.bool E.inLease)) x16 none none none none) D.h fun fl _ H'=>Q (outOf fl) H':=by
      intro D A' x16 sD
      obtain ⟨er,am⟩:=sD.msg im
      have hr:=am.2
      have pb:PX (dE c R n cut (.ref r) e (some (.tup [.int E.term,.int E.vote,.int E.state])) (some (.bool E.inLease)) x16 none none none none) D.h (.bop true [(.loc 15),(.cmp .Eq (.attr (.loc 2) 37) (.const (.int 5))),(.cmp .Gt (.attr (.loc 2) 80) (.sub (.loc 14) (.const (.int 0)))),(.cmp .Eq (.attr (.loc 2) 18) (.const (.bytes [])))]) (.bool (E.inLease && (decide (m.kind=5) && (decide (E.term < m.term) && ((if m.tr=true then TRB else []) == []))))) :=
        PX.and (PX.loc rfl) (PX.and (by tb_rel) (PX.and (by tb_rel) (PX.bop1 (by tb_rel))))
      refine WS.ite pb (fun h=>?_) (fun _=>rest D A' x16 sD)
      have h':E.inLease=true∧m.kind=5∧E.term < m.term∧m.tr=false:=by
        rw [Bool.and_eq_true,Bool.and_eq_true,Bool.and_eq_true,decide_eq_true_iff,decide_eq_true_iff] at h
        refine ⟨h.1,h.2.1,h.2.2.1,?_⟩
        rcases hq:m.tr with _ | _
        · rfl
        · have:=h.2.2.2
          rw [hq,if_pos rfl] at this
          cases this
      have same:actE E (some m)=E:=step_leased okE h'.2.1 h'.2.2.1 h'.2.2.2 h'.1
      have aq:=sD.mem.q
      have ql:A'.qs=[]:=by
        have:=sD.mem.m.length
        rw [same,okE.out] at this
        exact List.length_eq_zero_iff.mp this
      rw [ql] at aq
      have x1:Grow D (D.new 0 (.list [])):=Ext.new sD.mem.len 0 _
      have s2:=sD.grow x1
      have he2:=s2.he
      have p3:PX (dE c R n cut (.ref r) e (some (.tup [.int E.term,.int E.vote,.int E.state])) (some (.bool E.inLease)) x16 none none none none) (D.new 0 (.list [])).h (.cmp .NotEq (.tup [(.attr (.loc 13) 80),(.attr (.loc 13) 89),(.attr (.loc 13) 72)]) (.loc 14)) (.bool false):=by
        rw [same] at he2
        exact PX.cmp (by tb_rel) (PX.loc rfl) cmp_eq3
      refine WS.iteW (WX.bop (WX.cmp (WX.p (PX.attr (PX.loc rfl) sD.he rfl) (WX.list (WXs.nil ⟨_,cmp_tris (l:=[]) (x1.keep _ _ _ id aq).2 (At.fresh sD.mem.len 0 _).2,false,rfl,fun _=>WX.bop1 (WX.p p3 ⟨false,rfl,fun f=>nB f,fun _=>rest _ _ _ s2⟩),fun f=>nB f⟩)))))
    obtain ⟨er,am⟩:=s1.msg im
    have hr:=am.2
    have pb:PX (dE c R n cut (.ref r) e (some (.tup [.int E.term,.int E.vote,.int E.state])) (some (.bool E.inLease)) none none none none none) G1.h (.bop true [(.cmp .Eq (.attr (.loc 2) 37) (.const (.int 8))),(.cmp .Lt (.attr (.loc 2) 80) (.sub (.loc 14) (.const (.int 0))))]) (.bool (decide (m.kind=8) && decide (m.term < E.term))) :=
      PX.and (by tb_rel) (PX.bop1 (by tb_rel))
    refine WS.ite pb (fun h=>?_) (fun _=>next G1 A1 none s1)
    have h':m.kind=8∧m.term < E.term:=by simpa using h
    have t1:1≤m.term:=by
      cases fd with
      | hup=>exact absurd h'.1 (by show ¬ (0:Int)=8; decide)
      | told m hm _ _=>exact hm.term
    have out:=step_old okE h'.1 t1 h'.2
    have cmp:∀ (D:Gh) (A':Adr) (a:Nat),St ((n - 1).toNat + 1) e G A' D (actE E (some m))→At D 0 a (.list (((actE E (some m)).out.map tri).map triV))→WS (T1 (dp + 14)) (.ite (.cmp .NotEq (.comp (.tup [(.attr (.loc 21) 37),(.attr (.loc 21) 85),(.attr (.loc 21) 80)]) false [(.attr (.loc 13) 51)] none) (.loc 16)) [.ret (.const (.bool false))] []::.ite (.bop true [(.loc 15),(.cmp .Eq (.attr (.loc 2) 37) (.const (.int 5))),(.cmp .Gt (.attr (.loc 2) 80) (.sub (.loc 14) (.const (.int 0)))),(.cmp .Eq (.attr (.loc 2) 18) (.const (.bytes [])))]) [.ite (.bop false [(.cmp .NotEq (.attr (.loc 13) 51) (.list [])),(.cmp .NotEq (.tup [(.attr (.loc 13) 80),(.attr (.loc 13) 89),(.attr (.loc 13) 72)]) (.loc 14))]) [.ret (.const (.bool false))] []] []::List.drop 5 c__law_do)
        (dE c R n cut (.ref r) e (some (.tup [.int E.term,.int E.vote,.int E.state])) (some (.bool E.inLease)) (some (.ref a)) none none none none) D.h fun fl _ H'=>Q (outOf fl) H':=by
      intro D A' a sD aa
      have aq:=sD.mem.q
      have mq:=sD.mem.m
      have ml:=mq.length
      have dl:=d.len
      refine WS.iteW (WX.cmp (WX.compList (WX.p (PX.attr (PX.loc rfl) sD.he rfl) ⟨A'.q,_,rfl,aq.2,CompG.each sD.mem.len (A'.qs.map .ref) (((actE E (some m)).out.map tri).map triV) (by rw [List.length_map,List.length_map,List.length_map,ml]) (by rw [List.length_map,ml]; simp only [lim]; (first | lia | omega +splitDisjunctions)) (fun D2 y=>look_at (y.keep _ _ _ id aq).2) ?_ ?_⟩)))
      · intro i v u hv hu D2 y
        obtain ⟨r',x,rfl,ix,hx⟩:=L03.all_rows mq i v hv
        rw [List.getElem?_map,List.getElem?_map,hx] at hu
        have hu':triV (tri x)=u:=by simpa using hu
        rw [← hu']
        obtain ⟨er',ax⟩:=ix.ext y id
        have hr':=ax.2
        exact WX.px y.len (by tb_rel)
      · intro D2 y a1
        exact WX.p (PX.loc rfl) ⟨_,cmp_tris a1.2 (y.keep _ _ _ id aa).2,false,rfl,fun f=>nB f,fun _=>next D2 A' _ (sD.grow y)⟩
    refine WS.asg (WX.list (WXs.nil ?_))
    have x1:Grow G1 (G1.new 0 (.list [])):=Ext.new s1.mem.len 0 _
    have s2:=s1.grow x1
    have b0:=At.fresh s1.mem.len 0 (.list [])
    have bit:=C1.Good.bit z
    refine WS.ite (PX.cmp (PX.loc rfl) PX.const cmp_ne) (fun f=>?_) (fun f=>?_)
    · rw [bit] at f
      have f':c.check=true∨c.pre=true:=by simpa using f
      rw [if_pos f'] at out
      obtain ⟨er2,am2⟩:=s2.msg im
      have hr2:=am2.2
      have pt:PXs [(.tup [(.const (.int 4)),(.attr (.loc 2) 27),(.sub (.loc 14) (.const (.int 0)))])] (dE c R n cut (.ref r) e (some (.tup [.int E.term,.int E.vote,.int E.state])) (some (.bool E.inLease)) (some (.ref G1.h.length)) none none none none) (G1.new 0 (.list [])).h [triV (4,m.frm,E.term)] :=
        PXs.cons (by tb_rel) PXs.nil
      refine WS.asg (WX.list (WXs.p pt ?_))
      have x2:Grow (G1.new 0 (.list [])) ((G1.new 0 (.list [])).new 0 (.list [triV (4,m.frm,E.term)])):=Ext.new x1.len 0 _
      have b2:=At.fresh x1.len 0 (.list [triV (4,m.frm,E.term)])
      refine cmp _ _ _ (s2.grow x2) ?_
      have eo:((actE E (some m)).out.map tri).map triV=[triV (4,m.frm,E.term)]:=by
        show ((E.step m).out.map tri).map triV=_
        rw [out]; rfl
      rw [eo]; exact b2
    · rw [bit] at f
      have f':¬ (c.check=true∨c.pre=true):=by simpa using f
      rw [if_neg f'] at out
      refine cmp _ _ _ s2 ?_
      have eo:((actE E (some m)).out.map tri).map triV=[]:=by
        show ((E.step m).out.map tri).map triV=_
        rw [out]; rfl
      rw [eo]; exact b0
end
end Mine.L01
end
section
open PySem
namespace Mine.L01
variable {dp:Nat}
open L03 (isHv Sz conf_small HasMem)
section
variable {c:C1} {R:Rt} {G D:Gh} {W:W1} {g:Int→Int→Int} {n0:Nat} {Q:V→Hp→Prop} {n cut:Int} {e:Nat}
theorem map_erase {α β:Type} (f:α→β):∀ (l:List α) (j:Nat),(l.map f).eraseIdx j=(l.eraseIdx j).map f
  | [],_=>rfl
  | a::l,0=>rfl
  | a::l,j + 1=>by simp [map_erase f l j]
theorem Wd.len_ly (w:Wd c R G W g n0):lenV G.h (.ref R.aL)=some (W.ly.length:Int):=by
  obtain ⟨ls,l1,l2⟩:=w.ly
  rw [len_list l1.2,List.length_map,l2.length]
theorem Wd.relist (w:Wd c R G W g n0) (lm:W.mem.length < 100) {l:List Msg} {ls':List Nat} (f:All2 (isMsg G) ls' l):Wd c R (G.put R.aL (.list (ls'.map V.ref))) { W with ly:=l } g n0∧Ext (·=103) G (G.put R.aL (.list (ls'.map V.ref))):=by
  obtain ⟨ls,l1,l2⟩:=w.ly
  have X:Ext (·=103) G (G.put R.aL (.list (ls'.map V.ref))):=.put w.len l1 rfl
  exact ⟨⟨X.len,w.mem.hi X (by decide) lm (fun _ f=>by rw [f]; decide),X.keep _ _ _ (by decide) w.sav,⟨ls',l1.put,f.mono fun _ _=>isMsg.ext X (by decide)⟩,X.keep _ _ _ (by decide) w.left,X.keep _ _ _ (by decide) w.led,w.ledl,w.giv.ext X (by decide),X.keep _ _ _ (by decide) w.kn,w.cf.ext X (by decide)⟩,X⟩
theorem Wd.refill (w:Wd c R G W g n0) (lm:W.mem.length < 100) (x:Int):Wd c R (G.put R.aF (.list [.int x])) { W with left:=x } g n0∧Ext (·=104) G (G.put R.aF (.list [.int x])):=by
  have X:Ext (·=104) G (G.put R.aF (.list [.int x])):=.put w.len w.left rfl
  exact ⟨⟨X.len,w.mem.hi X (by decide) lm (fun _ f=>by rw [f]; decide),X.keep _ _ _ (by decide) w.sav,w.ly.ext X (by decide) (by decide),w.left.put,X.keep _ _ _ (by decide) w.led,w.ledl,w.giv.ext X (by decide),X.keep _ _ _ (by decide) w.kn,w.cf.ext X (by decide)⟩,X⟩
noncomputable def pickW (W:W1) (j:Nat) (stays:Bool):W1:={ W with ly:=if stays=true then W.ly else W.ly.eraseIdx j,left:=W.left - 1 }
theorem pick_sub {j:Nat} {stays:Bool} {m:Msg} (h:m∈(pickW W j stays).ly):m∈W.ly:=by
  have h:m∈(if stays=true then W.ly else W.ly.eraseIdx j):=h
  split at h
  · exact h
  · exact List.mem_of_mem_eraseIdx h
theorem pick_le {j:Nat} {stays:Bool}:(pickW W j stays).ly.length≤W.ly.length:=by
  show (if stays=true then W.ly else W.ly.eraseIdx j).length≤_
  split
  · exact Nat.le_refl _
  · exact List.length_eraseIdx_le ..
theorem wf_tell (z:c.Good) (gd:Good1 c g W) (w:Wd c R G W g n0) (ll:W.ly.length + 200 < lim) (hl2:n0 + 2 < lim) {j:Nat} {stays:Bool} (hj:j < 1000)
    (k1:(W.ly.length≤j∨W.left≤0)→Q (.bool true) G.h)
    (k2:∀ D m W' g',Ch G D→W.ly[j]?=some m→0 < W.left→Wd c R D W' g' (n0 + 1)→Good1 c g' W'→(∀ E,W.mem[(m.to - 1).toNat]?=some E→AfterDo (pickW W j stays) m.to cut (actE E (some m)) g W' g')→Q (.bool true) D.h):WF (T1 (dp + 16)) 67 [wV c R,.int j,.bool stays,.int cut] G.h Q:=by
  have zs:=z.size
  have lm:=gd.lenM
  obtain ⟨ls,l1,l2⟩:=w.ly
  have f1:=w.left
  refine WF.go rfl rfl ?_
  refine WS.asg (WX.p (PX.sub (PX.loc rfl) PX.const rfl) (WS.asg (WX.p (PX.sub (PX.loc rfl) PX.const rfl) ?_)))
  have sf:subV (.ref R.aF) (.int 0) G.h=some (.int W.left):=(sub_ref f1.2).trans rfl
  refine WS.ite (PX.or (PX.cmp (PX.loc rfl) (PX.len (PX.loc rfl) w.len_ly) cmp_ge) (PX.bop1 (PX.cmp (PX.sub (PX.loc rfl) PX.const sf) PX.const cmp_le))) (fun h=>WS.ret (WX.p PX.const (k1 ?_))) (fun h=>?_)
  · simp at h; (first | lia | omega +splitDisjunctions)
  · have h':j < W.ly.length∧0 < W.left:=by simp at h; (first | lia | omega +splitDisjunctions)
    obtain ⟨m,hm⟩:∃ m,W.ly[j]?=some m:=⟨_,List.getElem?_eq_getElem h'.1⟩
    obtain ⟨mr,hmr,im⟩:=l2.get hm
    have hmem:=List.mem_of_getElem? hm
    have si:setItemV (.ref R.aF) (.int 0) (.int (W.left - 1)) G.h=some (G.put R.aF (.list [.int (W.left - 1)])).h:=set_nat f1.2 (by decide) rfl Nat.zero_lt_one
    refine WS.augItem (PX.loc rfl) PX.const sf PX.const rfl si ?_
    obtain ⟨w1,y1⟩:=w.refill (by (first | lia | omega +splitDisjunctions)) (W.left - 1)
    have l11:=y1.keep _ _ _ (by decide) l1
    generalize G.put R.aF (.list [.int (W.left - 1)])=G1 at *
    have sl:subV (.ref R.aL) (.int (j:Int)) G1.h=some (.ref mr):=sub_nat l11.2 (by (first | lia | omega +splitDisjunctions)) (small_of (by (first | lia | omega +splitDisjunctions))) (by rw [Int.toNat_natCast,List.getElem?_map,hmr]; rfl)
    refine WS.asg (WX.p (PX.sub (PX.loc rfl) (PX.loc rfl) sl) ?_)
    have im1:=im.ext y1 (by decide)
    have g2:=good1_ly (l:=(pickW W j stays).ly) (n:=W.left - 1) gd fun x hx=>pick_sub hx
    have mk:=gd.msg m hmem
    have s2:=gd.s2 m hmem
    have rest:∀ D,Ch G D→Wd c R D (pickW W j stays) g n0→isMsg D mr m →
        WS (T1 (dp + 15)) [.ret (.call 66 [(.loc 0),(.attr (.loc 6) 85),(.loc 6),(.loc 3)])] [some (wV c R),some (.int j),some (.bool stays),some (.int cut),some (.ref R.aL),some (.ref R.aF),some (.ref mr)] D.h fun fl _ H'=>Q (outOf fl) H':=by
      intro D x wl imD
      obtain ⟨er,am⟩:=id imD
      have hr:=am.2
      have le:=pick_le (W:=W) (j:=j) (stays:=stays)
      refine WS.ret (WX.call (WXs.p (PXs.cons (PX.loc rfl) (PXs.cons (PX.attr (PX.loc rfl) hr rfl) (PXs.cons (PX.loc rfl) (PXs.cons (PX.loc rfl) PXs.nil)))) ?_))
      exact wf_do z g2 wl (by show (pickW W j stays).ly.length + 200 < lim; (first | lia | omega +splitDisjunctions)) mk.to hl2 (.msg mr m imD) (.told m mk rfl s2) fun D2 W' g' y w2 g3 ad=>k2 D2 m W' g' (x.trans y) hm h'.2 w2 g3 fun E hE=>ad E hE
    have chy:Ch G G1:=y1.weaken fun _ f=>by (first | lia | omega +splitDisjunctions)
    refine WS.ite (PX.not (PX.loc rfl) rfl) (fun hs=>?_) (fun hs=>?_)
    · have hs':stays=false:=by simpa using hs
      refine WS.expr (WX.pop0 (PX.loc rfl) l11.2 (PX.loc rfl) (by rw [small_of (by (first | lia | omega +splitDisjunctions))]; simp) (v:=.ref mr) (by rw [List.getElem?_map]; simp [hmr]) ?_)
      have e:(ls.map V.ref).eraseIdx (j:Int).toNat=(ls.eraseIdx j).map V.ref:=by rw [Int.toNat_natCast,map_erase]
      obtain ⟨w2,y2⟩:=w1.relist (by show W.mem.length < 100; (first | lia | omega +splitDisjunctions)) ((l2.mono fun _ _=>isMsg.ext y1 (by decide)).eraseIdx j)
      rw [← e] at w2 y2
      refine rest (G1.put R.aL (.list ((ls.map V.ref).eraseIdx (j:Int).toNat))) (chy.trans (y2.weaken fun _ f=>by (first | lia | omega +splitDisjunctions))) ?_ (im1.ext y2 (by decide))
      unfold pickW
      rw [hs',if_neg (by decide)]; exact w2
    · have hs':stays=true:=by simpa using hs
      refine rest G1 chy ?_ im1
      unfold pickW
      rw [hs',if_pos rfl]; exact w1
theorem all2_filter {α β:Type} {R:α→β→Prop} {as:List α} {bs:List β} (h:All2 R as bs) (q:α→Bool):∃ bs',All2 R (as.filter q) bs'∧∀ b∈bs',b∈bs:=by
  induction h with
  | nil=>exact ⟨[],.nil,fun b hb=>by cases hb⟩
  | @cons a b as bs r _ ih =>
    obtain ⟨bs',h1,h2⟩:=ih
    rw [List.filter_cons]
    split
    · refine ⟨b::bs',.cons r h1,fun x hx=>?_⟩
      rcases List.mem_cons.mp hx with e | e
      · exact e▸List.mem_cons_self ..
      · exact List.mem_cons_of_mem _ (h2 x e)
    · exact ⟨bs',h1,fun x hx=>List.mem_cons_of_mem _ (h2 x hx)⟩
noncomputable def keepP (H:Hp) (x how:Int):V→Bool
  | .ref r=>match H[r]? with
    | some (.inst _ fs)=>(decide (how=1) && !decide (intOf ((fget 85 fs).getD .none)=x)) || (decide (how=2) && !decide (intOf ((fget 27 fs).getD .none)=x))
    | _=>false
  | _=>false
theorem wf_lose (w:Wd c R G W g n0) (lm:W.mem.length < 100) (ll:W.ly.length < 1000) {x how:Int}
    (k:∀ D l,Ch G D→(∀ m∈l,m∈W.ly)→l.length≤W.ly.length→Wd c R D { W with ly:=l } g n0→Q .none D.h):WF (T1 (dp + 1)) 68 [.ref R.aL,.int x,.int how] G.h Q:=by
  obtain ⟨ls,l1,l2⟩:=w.ly
  have lsl:=l2.length
  refine WF.go rfl rfl ?_
  refine WS.asg (WX.compList (WX.p (PX.loc rfl) ⟨R.aL,_,rfl,l1.2,CompG.grow w.len (ls.map .ref) (keepP G.h x how) (fun v=>v) (by rw [List.length_map]; simp only [lim]; (first | lia | omega +splitDisjunctions)) (fun D y=>look_at (y.keep _ _ _ id l1).2) ?_ ?_ ?_⟩))
  · intro v hv D y
    obtain ⟨r,hr,rfl⟩:=List.mem_map.mp hv
    obtain ⟨i,hi⟩:=List.getElem?_of_mem hr
    obtain ⟨m,hm,er,am⟩:=l2.get' hi
    have hr':=(y.keep _ _ _ id am).2
    have kp:keepP G.h x how (.ref r)=((decide (how=1) && !decide (m.to=x)) || (decide (how=2) && !decide (m.frm=x))):=by
      simp only [keepP,am.2]; rfl
    rw [kp]
    exact WC.px y.len (PX.or (PX.and (by tb_rel) (by tb_rel)) (PX.bop1 (PX.and (by tb_rel) (by tb_rel))))
  · intro v hv _ D y
    exact WX.px y.len (PX.loc rfl)
  · intro D y a
    have e1:((ls.map V.ref).filter (keepP G.h x how)).map (fun v=>v)=(ls.filter (keepP G.h x how ∘ V.ref)).map V.ref:=by rw [List.map_id',List.filter_map]
    rw [e1] at a
    have wD:=w.grow y
    obtain ⟨ms',f1,f2⟩:=all2_filter (l2.mono fun _ _=>isMsg.ext y id) (keepP G.h x how ∘ V.ref)
    have flen:(ls.filter (keepP G.h x how ∘ V.ref)).length≤ls.length:=List.length_filter_le _ _
    generalize ls.filter (keepP G.h x how ∘ V.ref)=fs at *
    have l11:=y.keep _ _ _ id l1
    have put0:∀ k,k≤ls.length→(D.put R.aL (.list ((ls.take k).map V.ref))).h[R.aL]?=some (.list ((ls.take k).map V.ref)):=fun k _=>l11.put.2
    refine WS.while (fun k ρ H=>k≤ls.length∧H=(D.put R.aL (.list ((ls.take k).map V.ref))).h∧ρ=[some (.ref R.aL),some (.int x),some (.int how),none,some (.ref G.h.length)]) (k:=ls.length) (by simp only [lim]; (first | lia | omega +splitDisjunctions)) ⟨Nat.le_refl _,?_,rfl⟩ ?_
    · rw [List.take_length]
      exact put_same l11.2
    · rintro k ρ H ⟨hk,rfl,rfl⟩
      refine WX.p (PX.loc rfl) ⟨_,truth_list (put0 k hk),fun he=>?_,fun hne=>?_⟩
      · have k0:k=0:=by
          have:(ls.take k).map V.ref=[]:=by simpa using he
          rw [List.map_eq_nil_iff,List.take_eq_nil_iff] at this
          rcases this with q | q
          · exact q
          · rw [q] at hk; simpa using hk
        subst k0
        have l12:At (D.put R.aL (.list [])) 103 R.aL (.list []):=l11.put
        have y2:Ext (·=103) D (D.put R.aL (.list [])):=.put y.len l11 rfl
        have a2:=y2.keep _ _ _ (by decide) a
        show WS (T1 dp) _ _ (D.put R.aL (.list [])).h _
        refine WS.forList (WX.p (PX.loc rfl) ⟨G.h.length,_,rfl,a2.2,ForG.list (fs.map .ref) (fun i ρ H=>H=((D.put R.aL (.list [])).put R.aL (.list ((fs.take i).map V.ref))).h∧∃ u,ρ=[some (.ref R.aL),some (.int x),some (.int how),u,some (.ref G.h.length)]) (by rw [List.length_map]; simp only [lim]; (first | lia | omega +splitDisjunctions)) ?_ ⟨?_,none,rfl⟩ ?_ ?_⟩)
        · rintro i ρ H ⟨rfl,_⟩
          exact (a2.put_ne (l12.ne a2 (.inl (by decide)))).2
        · exact put_same l12.2
        · rintro i v ρ H hv ⟨rfl,u,rfl⟩
          have al:((D.put R.aL (.list [])).put R.aL (.list ((fs.take i).map V.ref))).h[R.aL]?=some (.list ((fs.take i).map V.ref)):=l12.put.2
          refine WS.expr (WX.append (PX.loc rfl) al (WX.p (PX.loc rfl) ⟨_,al,by rw [List.length_map,List.length_take]; simp only [lim]; (first | lia | omega +splitDisjunctions),WS.nil ⟨?_,some v,rfl⟩⟩))
          rw [List.getElem?_map] at hv
          obtain ⟨b,hb,rfl⟩:=Option.map_eq_some_iff.mp hv
          show List.set (List.set (D.put R.aL (.list [])).h R.aL _) R.aL _=List.set (D.put R.aL (.list [])).h R.aL _
          rw [List.set_set]
          congr 2
          rw [List.take_add_one,hb]; simp
        · rintro ρ H ⟨rfl,u,rfl⟩
          rw [List.length_map,List.take_length]
          obtain ⟨w2,X⟩:=wD.relist lm f1
          have e:(D.put R.aL (.list [])).put R.aL (.list (fs.map V.ref))=D.put R.aL (.list (fs.map V.ref)):=by
            unfold Gh.put
            rw [List.set_set]
          rw [e]
          exact WS.nil (k (D.put R.aL (.list (fs.map V.ref))) ms' (Ext.trans (Grow.ch y) (X.weaken fun τ f=>by (first | lia | omega +splitDisjunctions))) f2 (by have:=f1.length; (first | lia | omega +splitDisjunctions)) w2)
      · have kpos:0 < k:=by
          cases k with
          | zero=>simp at hne
          | succ k=>(first | lia | omega +splitDisjunctions)
        have hlast:((ls.take k).map V.ref).getLast?=some (.ref ls[k - 1]):=by
          rw [List.getLast?_eq_getElem?,List.getElem?_map,List.length_map,List.length_take,List.getElem?_take]
          rw [show min k ls.length - 1=k - 1 by (first | lia | omega +splitDisjunctions),if_pos (by (first | lia | omega +splitDisjunctions)),List.getElem?_eq_getElem (by (first | lia | omega +splitDisjunctions))]
          rfl
        refine WS.expr (WX.pop (PX.loc rfl) (put0 k hk) hlast (WS.nil ⟨k - 1,by (first | lia | omega +splitDisjunctions),by (first | lia | omega +splitDisjunctions),?_,rfl⟩))
        show List.set (List.set D.h R.aL _) R.aL _=List.set D.h R.aL _
        rw [List.set_set]
        congr 2
        rw [← List.map_dropLast,List.dropLast_eq_take,List.length_take,List.take_take,show min (min k ls.length - 1) k=k - 1 by (first | lia | omega +splitDisjunctions)]
end
end Mine.L01
end
section
open PySem
namespace Mine.L01
variable {dp:Nat}
open L03 (isHv Sz conf_small HasMem)
section
variable {c:C1} {R:Rt} {G D:Gh} {W:W1} {g:Int→Int→Int} {n0:Nat} {Q:V→Hp→Prop} {n cut:Int} {e:Nat}
theorem Wd.up (w:Wd c R G W g n0):Wd c R G W g (n0 + 1):=⟨w.len,w.mem,w.sav,w.ly,w.left,w.led,Nat.le_succ_of_le w.ledl,w.giv.up,w.kn,w.cf⟩
theorem Ch.refl (h:G.t.length=G.h.length):Ch G G:=Ext.refl h
theorem wf_tell_iv (z:c.Good) (gd:Good1 c g W) (w:Wd c R G W g n0) (ll:W.ly.length + 200 < lim) (hl2:n0 + 2 < lim) {j:Nat} {stays:Bool} (hj:j < 1000)
    (k:∀ D W' g',Ch G D→Wd c R D W' g' (n0 + 1)→Good1 c g' W'→W'.ly.length≤W.ly.length + 10→(0 < W.left→stays=false→cut=0→W.ly.length≤W'.ly.length + 1)→Q (.bool true) D.h):WF (T1 (dp + 16)) 67 [wV c R,.int j,.bool stays,.int cut] G.h Q:=by
  refine wf_tell z gd w ll hl2 hj (fun _=>k G W g (Ch.refl w.len) w.up gd (by (first | lia | omega +splitDisjunctions)) fun _ _ _=>by (first | lia | omega +splitDisjunctions)) fun D m W' g' x hm hp w2 g2 ad=>?_
  obtain ⟨E,_,hE,_,_⟩:=gd.at (gd.msg m (List.mem_of_getElem? hm)).to
  have a:=ad E hE
  have l1:=a.ly
  have l2:=pick_le (W:=W) (j:=j) (stays:=stays)
  refine k D W' g' x w2 g2 (by (first | lia | omega +splitDisjunctions)) fun _ hs hc=>?_
  rw [(a.eq hc).1]
  show _≤((pickW W j stays).ly++(actE E (some m)).out).length + 1
  rw [List.length_append]
  show _≤(if stays=true then W.ly else W.ly.eraseIdx j).length + _ + 1
  rw [hs,if_neg (by decide),List.length_eraseIdx]
  have:=(List.getElem?_eq_some_iff.mp hm).1
  rw [if_pos this]; (first | lia | omega +splitDisjunctions)
theorem do_le (z:c.Good) (gd:Good1 c g W) (hn:1≤n∧n≤c.size) {m:Option Msg} {W':W1} {g':Int→Int→Int} (h:∀ E,W.mem[(n - 1).toNat]?=some E→AfterDo W n cut (actE E m) g W' g'):W'.ly.length≤W.ly.length + 10:=by
  obtain ⟨E,_,hE,_,_⟩:=gd.at hn
  exact (h E hE).ly
noncomputable abbrev aE (c:C1) (R:Rt) (n k x y:Int) (e:Nat) (x16 x17:Option V):En :=
  [some (wV c R),some (.int n),some (.ref R.aM),some (.ref R.aS),some (.ref R.aL),some (.ref R.aD),some (.ref R.aG),some (.ref R.aK),some (.ref R.aC),some (.int c.bits),some (.ref R.aF),some (.int c.size),some (.int k),some (.int x),some (.int y),some (.ref e),x16,x17]
inductive LI (c:C1) (R:Rt) (G:Gh) (b nb:Nat) (F:W1→Prop) (e:Option V→En) (ρ:En) (H:Hp):Prop
  | mk (D:Gh) (W':W1) (g':Int→Int→Int) (n':Nat):H=D.h→Ch G D→Wd c R D W' g' n'→Good1 c g' W'→W'.ly.length≤b→n'≤nb→F W'→∀ u:Option V,ρ=e u→LI c R G b nb F e ρ H
variable {k x y:Int} {x16 x17:Option V} {ss:List S}
theorem act_ticks (z:c.Good) (gd:Good1 c g W) (w:Wd c R G W g n0) (ll:W.ly.length < 100) (nl:n0 < 10000) (hx:1≤x∧x≤c.size)
    (kk:∀ D W' g' n',Ch G D→Wd c R D W' g' n'→Good1 c g' W'→n'≤n0 + 40→W'.ly.length≤W.ly.length + 1000→Q (.bool true) D.h) :
    WS (T1 (dp + 15)) (.forr 16 true [(.bin .Add (.const (.int 1)) (.bin .Mod (.loc 14) (.const (.int 4))))] [.ite (.not (.call 66 [(.loc 0),(.loc 13),(.const .none),(.const (.int 0))])) [.ret (.const (.bool false))] []]::.ret (.const (.bool true))::ss) (aE c R n k x y e x16 x17) G.h fun fl _ H'=>Q (outOf fl) H':=by
  have hy:0≤y % 4∧y % 4 < 4:=by (first | lia | omega +splitDisjunctions)
  refine WS.forRange1 (WX.p (PX.bin PX.const (PX.bin (PX.loc rfl) PX.const (v:=.int 4) (w:=.int (y % 4)) rfl) rfl) ⟨1 + y % 4,rfl,small_of (by (first | lia | omega +splitDisjunctions)),ForG.range (fun i=>LI c R G (W.ly.length + 10 * i) (n0 + i) (fun _=>True) fun u=>aE c R n k x y e u x17) (by simp only [lim]; (first | lia | omega +splitDisjunctions)) ⟨G,W,g,n0,rfl,Ch.refl w.len,w,gd,Nat.le_refl _,Nat.le_refl _,trivial,x16,rfl⟩ ?_ ?_⟩)
  · rintro i ρ H hi ⟨D,W',g',n',rfl,x1,w1,g1,l1,nl1,_,u,rfl⟩
    refine WS.iteW (WX.not (WX.call (WXs.p (PXs.cons (PX.loc rfl) (PXs.cons (PX.loc rfl) (PXs.cons PX.const (PXs.cons PX.const PXs.nil)))) ?_)))
    refine wf_do z g1 w1 (by simp only [lim]; (first | lia | omega +splitDisjunctions)) hx (by simp only [lim]; (first | lia | omega +splitDisjunctions)) .tick .tick fun D2 W2 g2 x2 w2 gd2 ad=>⟨true,rfl,false,rfl,fun f=>nB f,fun _=>?_⟩
    have:=do_le z g1 hx ad
    exact WS.nil ⟨D2,W2,g2,n' + 1,rfl,Ext.trans x1 x2,w2,gd2,by (first | lia | omega +splitDisjunctions),by (first | lia | omega +splitDisjunctions),trivial,_,rfl⟩
  · rintro ρ H ⟨D,W',g',n',rfl,x1,w1,g1,l1,nl1,_,u,rfl⟩
    exact WS.ret (WX.p PX.const (kk D W' g' n' x1 w1 g1 (by (first | lia | omega +splitDisjunctions)) (by (first | lia | omega +splitDisjunctions))))
theorem act_six (z:c.Good) (gd:Good1 c g W) (w:Wd c R G W g n0) (ll:W.ly.length < 100) (nl:n0 < 10000)
    (kk:∀ D W' g' n',Ch G D→Wd c R D W' g' n'→Good1 c g' W'→n'≤n0 + 40→W'.ly.length≤W.ly.length + 1000→Q (.bool true) D.h) :
    WS (T1 (dp + 16)) (.forr 16 true [(.min (.const (.int 6)) (.len (.loc 4)))] [.ite (.not (.call 67 [(.loc 0),(.const (.int 0)),(.const (.bool false)),(.const (.int 0))])) [.ret (.const (.bool false))] []]::.ret (.const (.bool true))::ss) (aE c R n k x y e x16 x17) G.h fun fl _ H'=>Q (outOf fl) H':=by
  have hm:(if (W.ly.length:Int) < 6 then (W.ly.length:Int) else 6)≤6∧0≤(if (W.ly.length:Int) < 6 then (W.ly.length:Int) else 6):=by split<;>(first | lia | omega +splitDisjunctions)
  refine WS.forRange1 (WX.p (PX.min PX.const (PX.len (PX.loc rfl) w.len_ly)) ⟨_,rfl,small_of (by (first | lia | omega +splitDisjunctions)),ForG.range (fun i=>LI c R G (W.ly.length + 10 * i) (n0 + i) (fun _=>True) fun u=>aE c R n k x y e u x17) (by simp only [lim]; (first | lia | omega +splitDisjunctions)) ⟨G,W,g,n0,rfl,Ch.refl w.len,w,gd,Nat.le_refl _,Nat.le_refl _,trivial,x16,rfl⟩ ?_ ?_⟩)
  · rintro i ρ H hi ⟨D,W',g',n',rfl,x1,w1,g1,l1,nl1,_,u,rfl⟩
    refine WS.iteW (WX.not (WX.call (WXs.p (PXs.cons (PX.loc rfl) (PXs.cons PX.const (PXs.cons PX.const (PXs.cons PX.const PXs.nil)))) ?_)))
    refine wf_tell_iv (j:=0) z g1 w1 (by simp only [lim]; (first | lia | omega +splitDisjunctions)) (by simp only [lim]; (first | lia | omega +splitDisjunctions)) (by decide) fun D2 W2 g2 x2 w2 gd2 l2 _=>⟨true,rfl,false,rfl,fun f=>nB f,fun _=>?_⟩
    exact WS.nil ⟨D2,W2,g2,n' + 1,rfl,Ext.trans x1 x2,w2,gd2,by (first | lia | omega +splitDisjunctions),by (first | lia | omega +splitDisjunctions),trivial,_,rfl⟩
  · rintro ρ H ⟨D,W',g',n',rfl,x1,w1,g1,l1,nl1,_,u,rfl⟩
    exact WS.ret (WX.p PX.const (kk D W' g' n' x1 w1 g1 (by (first | lia | omega +splitDisjunctions)) (by (first | lia | omega +splitDisjunctions))))
inductive LJ (c:C1) (R:Rt) (G:Gh) (b nb q i:Nat) (e:Nat→Option V→En) (ρ:En) (H:Hp):Prop
  | mk (D:Gh) (W':W1) (g':Int→Int→Int) (n' j:Nat):H=D.h→Ch G D→Wd c R D W' g' n'→Good1 c g' W'→W'.ly.length≤b→n'≤nb→j + q≤W'.ly.length→j≤i→∀ u:Option V,ρ=e j u→LJ c R G b nb q i e ρ H
theorem act_all (z:c.Good) (gd:Good1 c g W) (w:Wd c R G W g n0) (ll:W.ly.length < 40) (nl:n0 < 10000)
    (kk:∀ D W' g' n',Ch G D→Wd c R D W' g' n'→Good1 c g' W'→n'≤n0 + 40→W'.ly.length≤W.ly.length + 1000→Q (.bool true) D.h) :
    WS (T1 (dp + 16)) (.asg 17 (.const (.int 0))::.forr 16 true [(.len (.loc 4))] [.ite (.cmp .NotEq (.attr (.sub (.loc 4) (.loc 17)) 85) (.loc 13)) [.augName 17 .Add (.const (.int 1))] [.ite (.cmp .LtE (.sub (.loc 10) (.const (.int 0))) (.const (.int 0))) [.ret (.const (.bool true))] [.ite (.not (.call 67 [(.loc 0),(.loc 17),(.const (.bool false)),(.const (.int 0))])) [.ret (.const (.bool false))] []]]]::.ret (.const (.bool true))::ss) (aE c R n k x y e x16 x17) G.h fun fl _ H'=>Q (outOf fl) H':=by
  refine WS.asg (WX.p PX.const ?_)
  refine WS.forRange1 (WX.p (PX.len (PX.loc rfl) w.len_ly) ⟨W.ly.length,rfl,small_of (by (first | lia | omega +splitDisjunctions)),ForG.range (fun i=>LJ c R G (W.ly.length + 10 * i) (n0 + i) (W.ly.length - i) i fun j u=>aE c R n k x y e u (some (.int j))) (by simp only [lim]; (first | lia | omega +splitDisjunctions)) ⟨G,W,g,n0,0,rfl,Ch.refl w.len,w,gd,Nat.le_refl _,Nat.le_refl _,by (first | lia | omega +splitDisjunctions),Nat.le_refl _,x16,rfl⟩ ?_ ?_⟩)
  · rintro i ρ H hi ⟨D,W',g',n',j,rfl,x1,w1,g1,l1,nl1,jq,ji,u,rfl⟩
    have hj:j < W'.ly.length:=by (first | lia | omega +splitDisjunctions)
    obtain ⟨m,hm⟩:∃ m,W'.ly[j]?=some m:=⟨_,List.getElem?_eq_getElem hj⟩
    obtain ⟨ls,b1,b2⟩:=w1.ly
    obtain ⟨mr,hmr,er,am⟩:=b2.get hm
    have hr:=am.2
    have sl:subV (.ref R.aL) (.int (j:Int)) D.h=some (.ref mr):=sub_nat b1.2 (by (first | lia | omega +splitDisjunctions)) (small_of (by (first | lia | omega +splitDisjunctions))) (by rw [Int.toNat_natCast,List.getElem?_map,hmr]; rfl)
    refine WS.ite (PX.cmp (PX.attr (PX.sub (PX.loc rfl) (PX.loc rfl) sl) hr rfl) (PX.loc rfl) cmp_ne) (fun _=>?_) (fun _=>?_)
    · refine WS.augName rfl PX.const rfl (WS.nil ⟨D,W',g',n',j + 1,rfl,x1,w1,g1,by (first | lia | omega +splitDisjunctions),by (first | lia | omega +splitDisjunctions),by (first | lia | omega +splitDisjunctions),by (first | lia | omega +splitDisjunctions),_,rfl⟩)
    · have sf:subV (.ref R.aF) (.int 0) D.h=some (.int W'.left):=(sub_ref w1.left.2).trans rfl
      refine WS.ite (PX.cmp (PX.sub (PX.loc rfl) PX.const sf) PX.const cmp_le) (fun _=>WS.ret (WX.p PX.const (kk D W' g' n' x1 w1 g1 (by (first | lia | omega +splitDisjunctions)) (by (first | lia | omega +splitDisjunctions))))) (fun hf=>?_)
      have hf':=of_decide_eq_false hf
      refine WS.iteW (WX.not (WX.call (WXs.p (PXs.cons (PX.loc rfl) (PXs.cons (PX.loc rfl) (PXs.cons PX.const (PXs.cons PX.const PXs.nil)))) ?_)))
      refine wf_tell_iv z g1 w1 (by simp only [lim]; (first | lia | omega +splitDisjunctions)) (by simp only [lim]; (first | lia | omega +splitDisjunctions)) (by (first | lia | omega +splitDisjunctions)) fun D2 W2 g2 x2 w2 gd2 l2 lo=>⟨true,rfl,false,rfl,fun f=>nB f,fun _=>?_⟩
      have lo:=lo (by (first | lia | omega +splitDisjunctions)) rfl rfl
      exact WS.nil ⟨D2,W2,g2,n' + 1,j,rfl,Ext.trans x1 x2,w2,gd2,by (first | lia | omega +splitDisjunctions),by (first | lia | omega +splitDisjunctions),by (first | lia | omega +splitDisjunctions),by (first | lia | omega +splitDisjunctions),_,rfl⟩
  · rintro ρ H ⟨D,W',g',n',j,rfl,x1,w1,g1,l1,nl1,jq,ji,u,rfl⟩
    exact WS.ret (WX.p PX.const (kk D W' g' n' x1 w1 g1 (by (first | lia | omega +splitDisjunctions)) (by (first | lia | omega +splitDisjunctions))))
inductive LB (c:C1) (R:Rt) (G:Gh) (W:W1) (g:Int→Int→Int) (n0 i:Nat) (e:Option V→En) (ρ:En) (H:Hp):Prop
  | mk (D:Gh) (l:List Msg):H=D.h→Ext (·=103) G D→Wd c R D { W with ly:=W.ly++l } g n0→l.length≤i→(∀ m,m∈l→Msg1 c m∧m.kind≠6)→∀ u:Option V,ρ=e u→LB c R G W g n0 i e ρ H
theorem wx_letter (w:Wd c R G W g n0) (lm:W.mem.length < 100) (ll:W.ly.length + 10 < lim) {ρ:En} {a b d f:X} {kd to frm tm:Int} {K:Hp→Prop} (hp:PX ρ G.h (.loc 4) (.ref R.aL)) (ha:PX ρ G.h a (.int kd)) (hb:PX ρ G.h b (.int to)) (hd:PX ρ G.h d (.int frm)) (hf:PX ρ G.h f (.int tm))
    (q:∀ D,Ext (·=103) G D→Wd c R D { W with ly:=W.ly++[⟨kd,to,frm,tm,0,0,false,false⟩] } g n0→K D.h):WX (T1 (dp + 1)) (.append (.loc 4) (.new 0 [a,b,d,f])) ρ G.h fun _ H'=>K H':=by
  obtain ⟨ls,l1,l2⟩:=w.ly
  refine WX.append hp l1.2 (wx_message ha hb hd hf ?_)
  generalize hmm:(⟨kd,to,frm,tm,0,0,false,false⟩:Msg)=mm at *
  rw [← Gh.msg_h]
  have x1:Grow G (G.msg mm):=Gh.msg_ext w.len _ _
  have w1:=w.grow x1
  have l11:=x1.keep _ _ _ id l1
  have l2l:=l2.length
  obtain ⟨w2,c2⟩:=Wd.relist (l:=W.ly++[mm]) (ls':=ls++[G.h.length]) w1 lm ((l2.mono fun _ _=>isMsg.ext x1 id).append (.cons (Gh.msg_is w.len mm) .nil))
  refine ⟨_,l11.2,by rw [List.length_map]; (first | lia | omega +splitDisjunctions),?_⟩
  have e:(G.msg mm).h.set R.aL (.list (ls.map V.ref++[.ref G.h.length]))=((G.msg mm).put R.aL (.list ((ls++[G.h.length]).map V.ref))).h:=by
    show List.set (G.msg mm).h R.aL _=List.set (G.msg mm).h R.aL _
    rw [List.map_append]; rfl
  rw [e]
  exact q _ ((x1.weaken fun _ f=>f.elim).trans c2) w2
theorem msg_lead (z:c.Good) (gd:Good1 c g W) {i:Nat} {E:El} {kk:Int} (hE:W.mem[i]?=some E) (hk:W.kn[i]?=some kk) {kd to:Int} (h:kd=8∨kd=14) (ht:1≤to∧to≤c.size):Msg1 c ⟨kd,to,E.nid,E.term,0,0,false,false⟩∧(⟨kd,to,E.nid,E.term,0,0,false,false⟩:Msg).kind≠6:=by
  have ok:=(gd.ok _ E kk hE hk).1
  refine ⟨⟨?_,ok.term,ok.nid,ht⟩,?_⟩
  · rcases h with h | h
    · exact .inr (.inr (.inr (.inl h)))
    · exact .inr (.inr (.inr (.inr (.inl h))))
  · show kd≠6
    (first | lia | omega +splitDisjunctions)
theorem act_beats (z:c.Good) (gd:Good1 c g W) (w:Wd c R G W g n0) (ll:W.ly.length < 100) (hx:1≤x∧x≤c.size) {E:El} {kn:Int} (hE:W.mem[(x - 1).toNat]?=some E) (hk:W.kn[(x - 1).toNat]?=some kn) (nid:E.nid=x) (he:Look R.aM G (x - 1).toNat e)
    (kk:∀ D W' g' n',Ch G D→Wd c R D W' g' n'→Good1 c g' W'→n'≤n0 + 40→W'.ly.length≤W.ly.length + 1000→Q (.bool true) D.h) :
    WS (T1 (dp + 1)) (.forr 17 true [(.const (.int 1)),(.bin .Add (.loc 11) (.const (.int 1)))] [.ite (.cmp .NotEq (.loc 17) (.loc 13)) [.expr (.append (.loc 4) (.new 0 [(.const (.int 8)),(.loc 17),(.loc 13),(.attr (.loc 15) 80)]))] []]::.ret (.const (.bool true))::ss) (aE c R n k x y e x16 x17) G.h fun fl _ H'=>Q (outOf fl) H':=by
  have zs:=z.size
  have lm:=gd.lenM
  refine WS.forRange2 (m:=1) (n:=(c.size:Int) + 1) PX.const (by tb_rel) rfl (small_of (by (first | lia | omega +splitDisjunctions))) (ForG.range (fun i=>LB c R G W g n0 i fun u=>aE c R n k x y e x16 u) (by simp only [lim]; (first | lia | omega +splitDisjunctions)) ⟨G,[],rfl,Ext.refl w.len,by rw [List.append_nil]; exact w,Nat.le_refl _,fun m hm=>(List.not_mem_nil hm).elim,x17,rfl⟩ ?_ ?_)
  · rintro i ρ H hi ⟨D,l,rfl,x1,w1,hl,hm,u,rfl⟩
    refine WS.ite (by tb_rel) (fun h=>?_) (fun h=>WS.nil ⟨D,l,rfl,x1,w1,by (first | lia | omega +splitDisjunctions),hm,_,rfl⟩)
    obtain ⟨A,me⟩:=w1.mem.look (Look.ext he w.mem x1 (by decide)) hE
    have hee:=me.e.2
    refine WS.expr (wx_letter w1 (by show W.mem.length < 100; (first | lia | omega +splitDisjunctions)) (by show (W.ly++l).length + 10 < lim; rw [List.length_append]; simp only [lim]; (first | lia | omega +splitDisjunctions)) (PX.loc rfl) (kd:=8) PX.const (PX.loc rfl) (PX.loc rfl) (PX.attr (PX.loc rfl) hee rfl) fun D2 x2 w2=>WS.nil ⟨D2,l++[⟨8,1 + (i:Int),x,E.term,0,0,false,false⟩],rfl,Ext.trans x1 x2,by rw [← List.append_assoc]; exact w2,by rw [List.length_append]; simpa using hl,fun m hm'=>?_,_,rfl⟩)
    rcases List.mem_append.mp hm' with q | q
    · exact hm m q
    · rw [List.mem_singleton.mp q,← nid]
      exact msg_lead z gd hE hk (.inl rfl) (by (first | lia | omega +splitDisjunctions))
  · rintro ρ H ⟨D,l,rfl,x1,w1,hl,hm,u,rfl⟩
    refine WS.ret (WX.p PX.const (kk D _ g n0 (x1.weaken fun τ f=>by (first | lia | omega +splitDisjunctions)) w1 (good1_add gd hm) (by (first | lia | omega +splitDisjunctions)) ?_))
    show (W.ly++l).length≤_
    rw [List.length_append]; (first | lia | omega +splitDisjunctions)
theorem act_hand (z:c.Good) (gd:Good1 c g W) (w:Wd c R G W g n0) (ll:W.ly.length < 100) {E:El} {kn:Int} (hE:W.mem[(x - 1).toNat]?=some E) (hk:W.kn[(x - 1).toNat]?=some kn) (nid:E.nid=x) (he:Look R.aM G (x - 1).toNat e)
    (kk:∀ D W' g' n',Ch G D→Wd c R D W' g' n'→Good1 c g' W'→n'≤n0 + 40→W'.ly.length≤W.ly.length + 1000→Q (.bool true) D.h) :
    WS (T1 (dp + 1)) (.ite (.cmp .NotEq (.bin .Add (.bin .Mod (.loc 14) (.loc 11)) (.const (.int 1))) (.loc 13)) [.expr (.append (.loc 4) (.new 0 [(.const (.int 14)),(.bin .Add (.bin .Mod (.loc 14) (.loc 11)) (.const (.int 1))),(.loc 13),(.attr (.loc 15) 80)]))] []::.ret (.const (.bool true))::ss) (aE c R n k x y e x16 x17) G.h fun fl _ H'=>Q (outOf fl) H':=by
  have zs:=z.size
  have lm:=gd.lenM
  have ht:1≤y % (c.size:Int) + 1∧y % (c.size:Int) + 1≤c.size:=by
    have h1:=Int.emod_nonneg y (show (c.size:Int)≠0 by (first | lia | omega +splitDisjunctions))
    have h2:=Int.emod_lt_of_pos y (show (0:Int) < c.size by (first | lia | omega +splitDisjunctions))
    (first | lia | omega +splitDisjunctions)
  have fm:binV .Mod (.int y) (.int c.size) G.h=some (.int (y % c.size),G.h):=L03.bin_cond (z:=y % (c.size:Int)) (g:=decide (0 < (c.size:Int))) (decide_eq_true (by (first | lia | omega +splitDisjunctions)))
  have pt:PX (aE c R n k x y e x16 x17) G.h (.bin .Add (.bin .Mod (.loc 14) (.loc 11)) (.const (.int 1))) (.int (y % c.size + 1)):=PX.bin (PX.bin (PX.loc rfl) (PX.loc rfl) fm) PX.const rfl
  obtain ⟨A,me⟩:=w.mem.look he hE
  have hee:=me.e.2
  refine WS.ite (PX.cmp pt (PX.loc rfl) cmp_ne) (fun _=>?_) (fun _=>WS.ret (WX.p PX.const (kk G W g n0 (Ch.refl w.len) w gd (by (first | lia | omega +splitDisjunctions)) (by (first | lia | omega +splitDisjunctions)))))
  refine WS.expr (wx_letter w (by (first | lia | omega +splitDisjunctions)) (by simp only [lim]; (first | lia | omega +splitDisjunctions)) (PX.loc rfl) (kd:=14) PX.const pt (PX.loc rfl) (PX.attr (PX.loc rfl) hee rfl) fun D2 x2 w2=>WS.ret (WX.p PX.const (kk D2 _ g n0 (x2.weaken fun τ f=>by (first | lia | omega +splitDisjunctions)) w2 ?_ (by (first | lia | omega +splitDisjunctions)) ?_)))
  · refine good1_add gd fun m hm=>?_
    rw [List.mem_singleton.mp hm,← nid]
    exact msg_lead z gd hE hk (.inr rfl) ht
  · show (W.ly++[_]).length≤_
    rw [List.length_append]; simp only [List.length_cons,List.length_nil]; (first | lia | omega +splitDisjunctions)
end
end Mine.L01
end
section
open PySem
namespace Mine.L01
variable {dp:Nat}
open L03 (isHv Sz conf_small HasMem)
section
variable {c:C1} {R:Rt} {G D:Gh} {W:W1} {g:Int→Int→Int} {n0:Nat} {Q:V→Hp→Prop} {n cut:Int} {e:Nat} {k x y:Int} {x16 x17:Option V} {ss:List S}
theorem act_flip (z:c.Good) (gd:Good1 c g W) (w:Wd c R G W g n0) (hx:1≤x∧x≤c.size) {E:El} {kn:Int} (hE:W.mem[(x - 1).toNat]?=some E) (hk:W.kn[(x - 1).toNat]?=some kn) (he:Look R.aM G (x - 1).toNat e)
    (kk:∀ D W' g' n',Ch G D→Wd c R D W' g' n'→Good1 c g' W'→n'≤n0 + 40→W'.ly.length≤W.ly.length + 1000→Q (.bool true) D.h) :
    WS (T1 (dp + 4)) (.setitem (.loc 7) (.bin .Sub (.loc 13) (.const (.int 1))) (.bin .Sub (.const (.int 1)) (.sub (.loc 7) (.bin .Sub (.loc 13) (.const (.int 1)))))::.expr (.meth (.loc 15) 71 [(.attr (.loc 15) 80),(.attr (.loc 15) 89),(.call 62 [(.sub (.loc 8) (.sub (.loc 7) (.bin .Sub (.loc 13) (.const (.int 1))))),(.loc 11)]),(.tup [(.const (.int 1)),(.const (.int 1))])])::.ret (.const (.bool true))::ss) (aE c R n k x y e x16 x17) G.h fun fl _ H'=>Q (outOf fl) H':=by
  have zs:=z.size
  have lm:=gd.lenM
  have k01:=gd.kn kn (List.mem_of_getElem? hk)
  have l01:1 - kn=0∨1 - kn=1:=by (first | lia | omega +splitDisjunctions)
  have lk:(x - 1).toNat < W.kn.length:=(List.getElem?_eq_some_iff.mp hk).1
  have sk:subV (.ref R.aK) (.int (x - 1)) G.h=some (.int kn):=L03.sub_at w.kn.2 (by (first | lia | omega +splitDisjunctions)) (by rw [List.getElem?_map,hk]; rfl)
  refine WS.setitem (WX.p (PX.bin PX.const (PX.sub (PX.loc rfl) (by tb_rel) sk) (w:=.int (1 - kn)) rfl) ⟨.ref R.aK,.int (x - 1),_,PX.loc rfl,by tb_rel,L03.setitem_at w.kn.2 (by (first | lia | omega +splitDisjunctions)) (by rw [List.length_map]; exact lk),?_⟩)
  have y1:Ext (·=107) G (G.put R.aK (.list ((W.kn.map V.int).set (x - 1).toNat (.int (1 - kn))))):=.put w.len w.kn rfl
  have b7:At (G.put R.aK (.list ((W.kn.map V.int).set (x - 1).toNat (.int (1 - kn))))) 107 R.aK (.list ((W.kn.set (x - 1).toNat (1 - kn)).map .int)):=by rw [map_set]; exact w.kn.put
  show WS _ _ _ (G.put R.aK (.list ((W.kn.map V.int).set (x - 1).toNat (.int (1 - kn))))).h _
  generalize G.put R.aK (.list ((W.kn.map V.int).set (x - 1).toNat (.int (1 - kn))))=G1 at *
  have w1:Wd c R G1 { W with kn:=W.kn.set (x - 1).toNat (1 - kn) } g n0 :=
    ⟨y1.len,w.mem.hi y1 (by decide) (by (first | lia | omega +splitDisjunctions)) (fun _ f=>by rw [f]; decide),y1.keep _ _ _ (by decide) w.sav,w.ly.ext y1 (by decide) (by decide),y1.keep _ _ _ (by decide) w.left,y1.keep _ _ _ (by decide) w.led,w.ledl,w.giv.ext y1 (by decide),b7,w.cf.ext y1 (by decide)⟩
  have he1:=Look.ext he w.mem y1 (by decide)
  obtain ⟨A,me⟩:=w1.mem.look he1 hE
  have s:St ((x - 1).toNat + 1) e G1 A G1 E:=.start (Nat.succ_ne_zero _) me
  have hse:=s.he
  obtain ⟨rk,sc,hh⟩:=Cfs.at w1.cf l01
  have sk1:subV (.ref R.aK) (.int (x - 1)) G1.h=some (.int (1 - kn)):=L03.sub_at b7.2 (by (first | lia | omega +splitDisjunctions)) (by rw [List.getElem?_map,List.getElem?_set_self lk]; rfl)
  have sz:=C1.Good.sz z (1 - kn)
  refine WS.expr (WX.methW (PX.loc rfl) hse rfl rfl (WXs.cons (WX.p (PX.attr (PX.loc rfl) hse rfl) (WXs.cons (WX.p (PX.attr (PX.loc rfl) hse rfl) (WXs.cons (WX.call (WXs.p (PXs.cons (PX.sub (PX.loc rfl) (PX.sub (PX.loc rfl) (by tb_rel) sk1) sc) (PXs.cons (PX.loc rfl) PXs.nil)) (wf_conf (dp:=dp + 1) w1.len sz hh fun D r x2 c6=>?_)))))))))
  refine WXs.cons (WX.p (by tb_rel) (WXs.nil ?_))
  have s6:=s.grow x2
  refine wf_stand (C:=confOf (c.hs (1 - kn)) c.size) s6.self c6 (conf_small sz) fun A7 G7 s7=>WS.ret (WX.p PX.const ?_)
  rw [conf_rising sz.hv] at s7
  have s8:=s6.rebase s7
  have w2:=w1.member (E':={ E with term:=E.term,vote:=E.vote,conf:=confOf (c.hs (1 - kn)) c.size,last:=(1,1) }) (by show W.mem.length < 100; (first | lia | omega +splitDisjunctions)) hE he1 s8 rfl
  obtain ⟨ok,nidE⟩:=gd.ok _ E kn hE hk
  obtain ⟨m1,cd,ld⟩:=gd.s1 _ E hE
  have ok':Ok1 c (1 - kn) { E with term:=E.term,vote:=E.vote,conf:=confOf (c.hs (1 - kn)) c.size,last:=(1,1) }:=⟨ok.nid,rfl,ok.check,ok.pre,rfl,ok.term,ok.out,⟨ok.vs.v,ok.vs.st⟩⟩
  exact kk G7 _ g n0 ((y1.weaken fun τ f=>by (first | lia | omega +splitDisjunctions)).trans (s8.ext.weaken fun τ f=>by (first | lia | omega +splitDisjunctions))) w2 (good1_put gd hE hk l01 ok' rfl m1 cd fun h2=>⟨h2,rfl⟩) (by (first | lia | omega +splitDisjunctions)) (Nat.le_add_right _ _)
theorem fdiv {H:Hp} {a b:Int} (h:0 < b∧b < 1073741824):binV .FloorDiv (.int a) (.int b) H=some (.int (a / b),H) :=
  L03.bin_cond (z:=a / b) (g:=decide (0 < b) && decide (b < 1073741824)) (by simp only [Bool.and_eq_true,decide_eq_true_eq]; exact h)
theorem fmod {H:Hp} {a b:Int} (h:0 < b):binV .Mod (.int a) (.int b) H=some (.int (a % b),H) :=
  L03.bin_cond (z:=a % b) (g:=decide (0 < b)) (decide_eq_true h)
theorem act_restart (z:c.Good) (gd:Good1 c g W) (w:Wd c R G W g n0) (hx:1≤x∧x≤c.size) {E:El} {kn:Int} (hE:W.mem[(x - 1).toNat]?=some E) (hk:W.kn[(x - 1).toNat]?=some kn)
    (kk:∀ D W' g' n',Ch G D→Wd c R D W' g' n'→Good1 c g' W'→n'≤n0 + 40→W'.ly.length≤W.ly.length + 1000→Q (.bool true) D.h) :
    WS (T1 (dp + 7)) (.expr (.call 65 [(.loc 0),(.loc 13)])::.ret (.const (.bool true))::ss) (aE c R n k x y e x16 x17) G.h fun fl _ H'=>Q (outOf fl) H':=by
  have zs:=z.size
  have lm:=gd.lenM
  have k01:=gd.kn kn (List.mem_of_getElem? hk)
  obtain ⟨ok,nidE⟩:=gd.ok _ E kn hE hk
  obtain ⟨m1,cd,ld⟩:=gd.s1 _ E hE
  have nid:E.nid=x:=by (first | lia | omega +splitDisjunctions)
  refine WS.expr (WX.call (WXs.p (PXs.cons (PX.loc rfl) (PXs.cons (PX.loc rfl) PXs.nil)) ?_))
  refine wf_restart z w.len w.mem lm hx w.sav (t:=E.term) (v:=E.vote) (by rw [List.getElem?_map,hE]; rfl) w.kn hk k01 w.cf fun D X mm=>?_
  have w1:=w.again (by (first | lia | omega +splitDisjunctions)) hE (show x.toNat=(x - 1).toNat + 1 by (first | lia | omega +splitDisjunctions)) X rfl mm rfl
  have g1:=good1_put gd hE hk k01 (fresh_ok z (k:=kn) (v:=E.vote) hx ok.term) nid.symm ⟨by show g E.term x=E.vote; rw [← nid]; exact m1.1,fun t ht=>by show g t x=0; rw [← nid]; exact m1.2 t ht⟩ fresh_cand fun q=>by cases q
  rw [set_self hk] at g1
  exact WS.ret (WX.p PX.const (kk D _ g n0 (X.weaken fun τ f=>by (first | lia | omega +splitDisjunctions)) w1 g1 (by (first | lia | omega +splitDisjunctions)) (Nat.le_add_right _ _)))
theorem wf_act (z:c.Good) (gd:Good1 c g W) (w:Wd c R G W g n0) (ll:W.ly.length < 40) (nl:n0 < 10000)
    (kk:∀ D W' g' n',Ch G D→Wd c R D W' g' n'→Good1 c g' W'→n'≤n0 + 40→W'.ly.length≤W.ly.length + 1000→Q (.bool true) D.h):WF (T1 (dp + 17)) 69 [wV c R,.int n] G.h Q:=by
  have zs:=z.size
  have lm:=gd.lenM
  obtain ⟨es,b1,b2,b3⟩:=id w.mem
  have hl:lenV G.h (.ref R.aM)=some (c.size:Int):=by rw [len_list b1.2,List.length_map,b2,lm]
  refine WF.go rfl rfl ?_
  refine WS.unpack (WX.p (PX.loc rfl) ⟨_,_,rfl,rfl,?_⟩)
  refine WS.asg (WX.p (PX.len (PX.loc rfl) hl) ?_)
  refine WS.asg (WX.p (PX.bin (PX.loc rfl) PX.const (fmod (by decide))) ?_)
  refine WS.asg (WX.p (PX.bin (PX.bin (PX.bin (PX.loc rfl) PX.const (fdiv (by decide))) (PX.loc rfl) (fmod (by (first | lia | omega +splitDisjunctions)))) PX.const rfl) ?_)
  refine WS.asg (WX.p (PX.bin (PX.bin (PX.loc rfl) PX.const (fdiv (by decide))) PX.const (fmod (by decide))) ?_)
  have hx:1≤n / 13 % (c.size:Int) + 1∧n / 13 % (c.size:Int) + 1≤c.size:=by
    have h1:=Int.emod_nonneg (n / 13) (show (c.size:Int)≠0 by (first | lia | omega +splitDisjunctions))
    have h2:=Int.emod_lt_of_pos (n / 13) (show (0:Int) < c.size by (first | lia | omega +splitDisjunctions))
    (first | lia | omega +splitDisjunctions)
  have hy:0≤n / 65 % 24∧n / 65 % 24 < 24:=by (first | lia | omega +splitDisjunctions)
  generalize n / 13 % (c.size:Int) + 1=x at *
  generalize n / 65 % 24=y at *
  generalize n % 13=k at *
  obtain ⟨E,kn,hE,hk,nid⟩:=gd.at hx
  obtain ⟨e,A,he,me⟩:=b3 _ E hE
  have lk:Look R.aM G (x - 1).toNat e:=look_of b1 he
  have hee:=me.e.2
  have sub:subV (.ref R.aM) (.int (x - 1)) G.h=some (.ref e):=L03.sub_at b1.2 (by (first | lia | omega +splitDisjunctions)) (by rw [List.getElem?_map,he]; rfl)
  refine WS.asg (WX.p (PX.sub (PX.loc rfl) (by tb_rel) sub) ?_)
  have e0:∀ a b,WS (T1 (dp + 16)) (List.drop 6 c__law_act) (aE c R n k x y e none none) a b→WS (T1 (dp + 16)) (List.drop 6 c__law_act) (setLoc (setLoc (setLoc (setLoc (setLoc (setLoc (setLoc (setLoc (setLoc (setLoc (setLoc (setLoc (setLoc (setLoc (List.map some [wV c R,.int n]++List.replicate 16 none) 2 (.ref R.aM)) 3 (.ref R.aS)) 4 (.ref R.aL)) 5 (.ref R.aD)) 6 (.ref R.aG)) 7 (.ref R.aK)) 8 (.ref R.aC)) 9 (.int c.bits)) 10 (.ref R.aF)) 11 (.int c.size)) 12 (.int k)) 13 (.int x)) 14 (.int y)) 15 (.ref e)) a b:=fun _ _ h=>h
  refine e0 _ _ ?_
  have ps:PX (aE c R n k x y e none none) G.h (.attr (.loc 15) 72) (.int E.state):=PX.attr (PX.loc rfl) hee rfl
  refine WS.ite (by tb_rel) (fun _=>act_ticks (dp:=dp + 1) z gd w (by (first | lia | omega +splitDisjunctions)) nl hx kk) (fun _=>?_)
  refine WS.ite (by tb_rel) (fun _=>?_) (fun _=>?_)
  · refine WS.ret (WX.call (WXs.cons (WX.p (PX.loc rfl) (WXs.cons (WX.p (PX.loc rfl) (WXs.cons (wx_message PX.const (PX.loc rfl) (PX.loc rfl) PX.const (WXs.cons (WX.p PX.const (WXs.nil ?_))))))))))
    show WF (T1 (dp + 16)) 66 [wV c R,.int x,.ref G.h.length,.int 0] (G.h++[.inst 0 (mfs (El.hupMsg x) (G.h.length + 1)),.list []]) _
    rw [← Gh.msg_h]
    have x1:Grow G (G.msg (El.hupMsg x)):=Gh.msg_ext w.len _ _
    exact wf_do (dp:=dp + 1) z gd (w.grow x1) (by simp only [lim]; (first | lia | omega +splitDisjunctions)) hx (by simp only [lim]; (first | lia | omega +splitDisjunctions)) (.msg _ _ (Gh.msg_is w.len _)) .hup fun D2 W2 g2 x2 w2 gd2 ad=>kk D2 W2 g2 (n0 + 1) ((Grow.ch x1).trans x2) w2 gd2 (by (first | lia | omega +splitDisjunctions)) (by have:=do_le z gd hx ad; (first | lia | omega +splitDisjunctions))
  refine WS.ite (PX.and (by tb_rel) (PX.bop1 (PX.cmp ps PX.const cmp_eq))) (fun _=>act_beats (dp:=dp + 15) z gd w (by (first | lia | omega +splitDisjunctions)) hx hE hk nid lk kk) (fun _=>?_)
  refine WS.ite (PX.and (by tb_rel) (PX.bop1 (PX.cmp ps PX.const cmp_eq))) (fun _=>act_hand (dp:=dp + 15) z gd w (by (first | lia | omega +splitDisjunctions)) hE hk nid lk kk) (fun _=>?_)
  refine WS.ite (PX.or (by tb_rel) (PX.bop1 (by tb_rel))) (fun _=>?_) (fun _=>?_)
  · exact WS.ret (WX.call (WXs.p (PXs.cons (PX.loc rfl) (PXs.cons (PX.loc rfl) (PXs.cons PX.const (PXs.cons PX.const PXs.nil)))) (wf_do (dp:=dp + 1) z gd w (by simp only [lim]; (first | lia | omega +splitDisjunctions)) hx (by simp only [lim]; (first | lia | omega +splitDisjunctions)) .tick .tick fun D2 W2 g2 x2 w2 gd2 ad=>kk D2 W2 g2 (n0 + 1) x2 w2 gd2 (by (first | lia | omega +splitDisjunctions)) (by have:=do_le z gd hx ad; (first | lia | omega +splitDisjunctions)))))
  refine WS.ite (by tb_rel) (fun _=>act_restart (dp:=dp + 9) z gd w hx hE hk kk) (fun _=>?_)
  refine WS.ite (by tb_rel) (fun _=>act_flip (dp:=dp + 12) z gd w hx hE hk lk kk) (fun _=>?_)
  refine WS.ite (by tb_rel) (fun _=>?_) (fun _=>?_)
  · exact WS.expr (WX.call (WXs.p (PXs.cons (PX.loc rfl) (PXs.cons (PX.loc rfl) (PXs.cons (PX.bin (PX.loc rfl) PX.const (fmod (by decide))) PXs.nil))) (wf_lose (dp:=dp + 15) w (by (first | lia | omega +splitDisjunctions)) (by (first | lia | omega +splitDisjunctions)) fun D' l y1 sub le w1=>WS.ret (WX.p PX.const (kk D' _ g n0 y1 w1 (good1_ly (n:=W.left) gd sub) (by (first | lia | omega +splitDisjunctions)) (by show l.length≤_; (first | lia | omega +splitDisjunctions)))))))
  refine WS.ite (by tb_rel) (fun _=>?_) (fun _=>?_)
  · obtain ⟨ls,l1,l2⟩:=w.ly
    obtain ⟨w1,c1⟩:=Wd.relist (l:=W.ly.reverse) (ls':=ls.reverse) w (by (first | lia | omega +splitDisjunctions)) l2.reverse
    refine WS.expr (WX.reverse (PX.loc rfl) l1.2 (WS.ret (WX.p PX.const ?_)))
    have:=kk _ _ g n0 (c1.weaken fun τ f=>by (first | lia | omega +splitDisjunctions)) w1 (good1_ly (n:=W.left) gd fun m hm=>List.mem_reverse.mp hm) (by (first | lia | omega +splitDisjunctions)) (by show W.ly.reverse.length≤_; rw [List.length_reverse]; (first | lia | omega +splitDisjunctions))
    rw [List.map_reverse] at this
    exact this
  refine WS.ite (by tb_rel) (fun _=>act_six z gd w (by (first | lia | omega +splitDisjunctions)) nl kk) (fun _=>?_)
  refine WS.ite (by tb_rel) (fun _=>act_all z gd w ll nl kk) (fun _=>?_)
  have jj:∃ j:Nat,y % ((W.ly.length:Int) + 1)=j∧j < 1000:=by
    have h1:=Int.emod_nonneg y (show ((W.ly.length:Int) + 1)≠0 by (first | lia | omega +splitDisjunctions))
    have h2:=Int.emod_lt_of_pos y (show (0:Int) < (W.ly.length:Int) + 1 by (first | lia | omega +splitDisjunctions))
    exact ⟨(y % ((W.ly.length:Int) + 1)).toNat,by (first | lia | omega +splitDisjunctions),by (first | lia | omega +splitDisjunctions)⟩
  obtain ⟨j,ej,hj⟩:=jj
  have hp:PX (aE c R n k x y e none none) G.h (.bin .Mod (.loc 14) (.bin .Add (.len (.loc 4)) (.const (.int 1)))) (.int j):=by
    rw [← ej]
    exact PX.bin (PX.loc rfl) (PX.bin (PX.len (PX.loc rfl) w.len_ly) PX.const rfl) (fmod (by (first | lia | omega +splitDisjunctions)))
  refine WS.asg (WX.p hp ?_)
  refine WS.ite (by tb_rel) (fun _=>?_) (fun _=>?_)
  · refine WS.ret (WX.call (WXs.p (PXs.cons (PX.loc rfl) (PXs.cons (PX.loc rfl) (PXs.cons PX.const (PXs.cons (PX.bin PX.const (PX.bin (PX.loc rfl) PX.const (fmod (by decide))) rfl) PXs.nil)))) ?_))
    exact wf_tell_iv z gd w (by simp only [lim]; (first | lia | omega +splitDisjunctions)) (by simp only [lim]; (first | lia | omega +splitDisjunctions)) hj fun D' W' g' y1 w1 gd1 l1 _=>kk D' W' g' (n0 + 1) y1 w1 gd1 (by (first | lia | omega +splitDisjunctions)) (by (first | lia | omega +splitDisjunctions))
  · refine WS.ret (WX.call (WXs.p (PXs.cons (PX.loc rfl) (PXs.cons (PX.loc rfl) (PXs.cons (by tb_rel) (PXs.cons PX.const PXs.nil)))) ?_))
    exact wf_tell_iv z gd w (by simp only [lim]; (first | lia | omega +splitDisjunctions)) (by simp only [lim]; (first | lia | omega +splitDisjunctions)) hj fun D' W' g' y1 w1 gd1 l1 _=>kk D' W' g' (n0 + 1) y1 w1 gd1 (by (first | lia | omega +splitDisjunctions)) (by (first | lia | omega +splitDisjunctions))
end
end Mine.L01
end
section
open PySem
namespace Mine
structure Ec where
  hs:List (List Int)
  size:Nat
  n:Int
  T:Int
  tr:Bool
  led0:List (Int×Int)
noncomputable def Ec.oth (e:Ec):List Int:=(votersP e.hs e.size).filter fun j=>decide (j≠e.n)
noncomputable def potE (e:Ec) (L:El) (l:List Msg):Nat:=sumW l + if L.state=3 then 2 * e.oth.length else 0
structure AskE (e:Ec) (m:Msg):Prop where
  frm:m.frm=e.n
  ix:m.ix=1
  lt:m.lt=1
  tr:m.tr=e.tr
  to:m.to≠e.n
noncomputable def MsgE (e:Ec) (s:Int) (m:Msg):Prop:=m.term=e.T∧((m.kind=17∧e.tr=false∨m.kind=5∧s≠3)∧AskE e m∨(m.kind=18∨m.kind=6∧s≠3)∧m.rej=false∧m.to=e.n)
inductive OthE (e:Ec) (s:Int) (E:El):Prop
  | old:E.term=e.T - 1→(e.tr=true∨E.leader=0∧E.state=0)→OthE e s E
  | new:E.term=e.T→E.vote=e.n→E.state=0→E.leader=0→s≠3→OthE e s E
noncomputable def PhE (e:Ec) (L:El):Prop:=L.state=3∧L.term=e.T - 1∧e.tr=false∨(L.state=1∨L.state=2)∧L.term=e.T∧L.vote=e.n
structure OpenE (e:Ec) (L:El) (W:W1):Prop where
  lead:W.mem[(e.n - 1).toNat]?=some L
  ph:PhE e L
  self:L.state≠2→SelfI e.n L.votes
  still:L.state≠2→jointP (half0 e.hs) (half1 e.hs) L.votes≠3
  alone:L.state=3→jointP (half0 e.hs) (half1 e.hs) [(e.n,true)]≠3
  oth:∀ (i:Nat) (E:El),W.mem[i]?=some E→E.nid≠e.n→OthE e L.state E
  msg:∀ m∈W.ly,MsgE e L.state m
  covP:L.state=3→∀ o∈e.oth,CovI L.votes W.ly 17 18 o
  covV:L.state=1→∀ o∈e.oth,CovI L.votes W.ly 5 6 o
  led:W.led=if L.state=2 then (e.T,e.n)::e.led0 else e.led0
inductive OpenP (e:Ec) (W:W1) (p:Nat):Prop
  | mk (L:El):OpenE e L W→potE e L W.ly + 1≤p→OpenP e W p
structure Asker (c:C1) (e:Ec) (W:W1):Prop where
  vot:e.n∈votersP e.hs e.size
  kn:∃ k,W.kn[(e.n - 1).toNat]?=some k∧e.hs=c.hs k
  size:e.size=c.size
  T:2≤e.T
  new:e.led0.lookup e.T=none
section
variable {c:C1} {e:Ec} {L E S:El} {W W':W1} {g:Int→Int→Int} {m:Msg} {k:Int}
theorem all_yes (hv:Hv e.hs e.size) {vs:List (Int×Bool)} (h:∀ v∈votersP e.hs e.size,vget vs v=some true):jointP (half0 e.hs) (half1 e.hs) vs=3 :=
  all_yes_won (c:=⟨e.hs,e.size,false⟩) hv h
theorem openE_end (hv:Hv e.hs e.size) (O:OpenE e L W) (h:W.ly=[]):L.state=2∧L.term=e.T∧L.vote=e.n:=by
  have nil (a b v:Int) (z:CovI L.votes [] a b v):vget L.votes v=some true:=by
    rcases z with z | ⟨_,z,_⟩ | ⟨_,z,_⟩
    · exact z
    · cases z
    · cases z
  have notc:¬ (L.state=1∨L.state=3):=by
    intro hc
    refine O.still (by (first | lia | omega +splitDisjunctions)) (all_yes hv fun v hv=>?_)
    by_cases ev:v=e.n
    · rw [ev]; exact (O.self (by (first | lia | omega +splitDisjunctions))).1
    · have ho:v∈e.oth:=by unfold Ec.oth; rw [List.mem_filter]; exact ⟨hv,by simpa using ev⟩
      rcases hc with hc | hc
      · have z:=O.covV hc v ho
        rw [h] at z
        exact nil _ _ _ z
      · have z:=O.covP hc v ho
        rw [h] at z
        exact nil _ _ _ z
  rcases O.ph with q | ⟨q,q1,q2⟩
  · exact absurd (.inr q.1) notc
  · exact ⟨by (first | lia | omega +splitDisjunctions),q1,q2⟩
structure TlE (e:Ec) (L:El) (W W':W1) (m:Msg) (E S:El):Prop where
  O:OpenE e L W
  hE:W.mem[(m.to - 1).toNat]?=some E
  put:W'.mem[(m.to - 1).toNat]?=some S.flush
  ne:∀ i,i≠(m.to - 1).toNat→W'.mem[i]?=W.mem[i]?
  er:∀ x∈W.ly,x=m∨x∈W'.ly
  was:∀ x∈W'.ly,x∈W.ly∨x∈S.out
  new:∀ x∈S.out,x∈W'.ly
  sum:sumW W'.ly + wt m=sumW W.ly + sumW S.out
  led:W'.led=ledP W.led S
theorem TlE.up (T:TlE e L W W' m E S) {vs:List (Int×Bool)} {a b o:Int} (z:CovI vs S.out a b o):CovI vs W'.ly a b o:=by
  rcases z with z | ⟨x,hx,p,q⟩ | ⟨x,hx,p,q⟩
  · exact .yes z
  · exact .ask x (T.new x hx) p q
  · exact .ans x (T.new x hx) p q
theorem TlE.cov (T:TlE e L W W' m E S) {vs vs':List (Int×Bool)} {a b o:Int} (h:CovI vs W.ly a b o) (y:vget vs o=some true→vget vs' o=some true)
    (h1:m.kind=a→m.to=o→CovI vs' S.out a b o) (h2:m.kind=b→m.frm=o→CovI vs' S.out a b o):CovI vs' W'.ly a b o:=by
  rcases h with z | ⟨x,hx,p,q⟩ | ⟨x,hx,p,q⟩
  · exact .yes (y z)
  · rcases T.er x hx with rfl | z
    · exact T.up (h1 p q)
    · exact .ask x z p q
  · rcases T.er x hx with rfl | z
    · exact T.up (h2 p q)
    · exact .ans x z p q
theorem MsgE.mono {s t:Int} {x:Msg} (h:MsgE e s x) (h3:t≠3):MsgE e t x :=
  ⟨h.1,h.2.imp (fun z=>⟨z.1.imp id fun w=>⟨w.1,h3⟩,z.2⟩) fun z=>⟨z.1.imp id fun w=>⟨w.1,h3⟩,z.2⟩⟩
theorem OthE.mono {s t:Int} (h:OthE e s E) (h3:t≠3):OthE e t E:=by
  rcases h with ⟨a,b⟩ | ⟨a,b,d,f,_⟩
  · exact .old a b
  · exact .new a b d f h3
theorem ledP_same {led:List (Int×Int)} {S:El} (h:S.state=2→∃ n,led.lookup S.term=some n):ledP led S=led:=by
  unfold ledP
  rw [if_neg]
  rintro ⟨a,b⟩
  obtain ⟨n,q⟩:=h a
  exact nS (b.symm.trans q)
theorem TlE.keep {L':El} (T:TlE e L W W' m E S) (ld:W'.mem[(e.n - 1).toNat]?=some L') (st:L'.state=L.state) (ph:PhE e L') (self:L.state≠2→SelfI e.n L'.votes) (still:L.state≠2→jointP (half0 e.hs) (half1 e.hs) L'.votes≠3)
    (vs:∀ v,vget L.votes v=some true→vget L'.votes v=some true) (oth:S.flush.nid≠e.n→OthE e L.state S.flush) (msg:∀ r∈S.out,MsgE e L.state r) (sl:S.state=2→L.state=2∧S.term=e.T)
    (cP:L.state=3→m.kind=17→CovI L'.votes S.out 17 18 m.to) (cQ:L.state=3→m.kind=18→CovI L'.votes S.out 17 18 m.frm)
    (cV:L.state=1→m.kind=5→CovI L'.votes S.out 5 6 m.to) (cW:L.state=1→m.kind=6→CovI L'.votes S.out 5 6 m.frm)
    (w:sumW S.out + 1≤wt m):OpenP e W' (potE e L W.ly):=by
  refine ⟨L',⟨ld,ph,fun h=>self fun q=>h (st.trans q),fun h=>still fun q=>h (st.trans q),fun h=>T.O.alone (st.symm.trans h),fun i F hF hn=>?_,fun x hx=>?_,fun h o ho=>?_,fun h o ho=>?_,?_⟩,?_⟩
  · rw [st]
    by_cases hi:i=(m.to - 1).toNat
    · subst hi
      cases hF.symm.trans T.put
      exact oth hn
    · exact T.O.oth i F ((T.ne i hi).symm.trans hF) hn
  · rw [st]; exact (T.was x hx).elim (T.O.msg x) (msg x)
  · have h:=st.symm.trans h
    exact T.cov (T.O.covP h o ho) (vs o) (fun a b=>b▸cP h a) fun a b=>b▸cQ h a
  · have h:=st.symm.trans h
    exact T.cov (T.O.covV h o ho) (vs o) (fun a b=>b▸cV h a) fun a b=>b▸cW h a
  · rw [T.led,st,← T.O.led]
    refine ledP_same fun h=>?_
    obtain ⟨a,b⟩:=sl h
    rw [T.O.led,if_pos a,b]
    exact ⟨e.n,by rw [lookup_cons,if_pos rfl]⟩
  · have:=T.sum
    unfold potE
    rw [st]; (first | lia | omega +splitDisjunctions)
theorem TlE.turn (T:TlE e L W W' m L S) (to:m.to=e.n) (h3:S.state≠3) (ph:PhE e S) (self:S.state≠2→SelfI e.n S.votes) (still:S.state≠2→jointP (half0 e.hs) (half1 e.hs) S.votes≠3) (nS:S.nid=e.n) (msg:∀ r∈S.out,MsgE e S.state r) (new:e.led0.lookup e.T=none) (l2:L.state≠2) (sT:S.term=e.T)
    (cV:S.state=1→∀ o∈e.oth,CovI S.votes S.out 5 6 o)
    (w:sumW S.out + 1≤wt m + if L.state=3 then 2 * e.oth.length else 0):OpenP e W' (potE e L W.ly):=by
  have was (i:Nat) (F:El) (hF:W'.mem[i]?=some F) (hn:F.nid≠e.n):W.mem[i]?=some F:=by
    refine (T.ne i fun q=>?_).symm.trans hF
    subst q
    cases hF.symm.trans T.put
    exact hn nS
  refine ⟨S.flush,⟨to▸T.put,ph,self,still,fun h=>absurd h h3,fun i F hF hn=>?_,fun x hx=>?_,fun h=>absurd h h3,fun h o ho=>T.up (cV h o ho),?_⟩,?_⟩
  · exact (T.O.oth i F (was i F hF hn) hn).mono h3
  · exact (T.was x hx).elim (fun q=>(T.O.msg x q).mono h3) (msg x)
  · rw [T.led,T.O.led,if_neg l2]
    show _=if S.state=2 then _ else _
    unfold ledP
    rw [sT,nS]
    by_cases h:S.state=2
    · rw [if_pos ⟨h,new⟩,if_pos h]
    · rw [if_neg fun q=>h q.1,if_neg h]
  · have:=T.sum
    have h3:¬ S.flush.state=3:=h3
    unfold potE
    rw [if_neg h3]; (first | lia | omega +splitDisjunctions)
theorem ev5n (hk:m.kind=5) (h0:m.term≠0) (hr:m.ix=1∧m.lt=1) (hl:E.last=(1,1)) (h:E.term < m.term) (cl:m.tr=true∨E.leader=0) :
    E.step m={ E.becomeFollower m.term 0 with elapsed:=0,vote:=m.frm,out:=E.out++[{ kind:=6,to:=m.frm,frm:=E.nid,term:=m.term,lt:=0,ix:=0,rej:=false,tr:=false }] }:=by
  have e:E.settle m=(E.becomeFollower m.term 0,true):=by
    unfold El.settle
    rw [if_neg h0,if_pos h]
    unfold El.settleHigher
    have nl:¬ (m.tr=false∧E.inLease=true):=by
      rintro ⟨a,b⟩
      rcases cl with q | q
      · rw [q] at a; cases a
      · unfold El.inLease at b
        rw [q,decide_eq_true rfl] at b
        simp at b
    rw [if_neg fun q=>nl q.2,if_neg (by (first | lia | omega +splitDisjunctions)),if_neg (by (first | lia | omega +splitDisjunctions)),if_neg (by rw [hk]; decide)]
  rw [step_of e]
  unfold El.after
  rw [if_neg (by (first | lia | omega +splitDisjunctions)),if_pos (.inl hk)]
  unfold El.answerVote
  have up:(E.becomeFollower m.term 0).upToDate m.ix m.lt=true:=by
    unfold El.upToDate
    rw [show (E.becomeFollower m.term 0).last=E.last from rfl,hl,hr.1,hr.2]; rfl
  have cn:(E.becomeFollower m.term 0).canVote m=true:=by
    unfold El.canVote
    have v0:(E.becomeFollower m.term 0).vote=0:=by
      show (if E.term=m.term then E.vote else 0)=0
      rw [if_neg (by (first | lia | omega +splitDisjunctions))]
    rw [v0,show (E.becomeFollower m.term 0).leader=0 from rfl]
    simp
  rw [if_pos (by rw [up,cn]; rfl)]
  dsimp only
  rw [if_pos hk,hk]
  rfl
theorem openE_17 (T:TlE e L W W' m E (E.step m)) (okE:Ok1 c k E) (tm:m.term=e.T) (t2:2≤e.T) (hk:m.kind=17) (tr:e.tr=false) (ak:AskE e m) (hn:E.nid=m.to) (ix:(e.n - 1).toNat≠(m.to - 1).toNat):OpenP e W' (potE e L W.ly):=by
  have ne:=ak.to
  have o:=T.O.oth _ E T.hE (by (first | lia | omega +splitDisjunctions))
  have b:E.leader=0∧E.state=0∧E.term≤m.term∧(E.vote=m.frm∨E.vote=0∨E.term < m.term):=by
    have:=ak.frm
    rcases o with ⟨a,b⟩ | ⟨a,b,d,f,_⟩
    · have b:=b.resolve_left fun q=>by rw [tr] at q; cases q
      exact ⟨b.1,b.2,by (first | lia | omega +splitDisjunctions),by (first | lia | omega +splitDisjunctions)⟩
    · exact ⟨f,d,by (first | lia | omega +splitDisjunctions),by (first | lia | omega +splitDisjunctions)⟩
  obtain ⟨b1,b2,b3,b4⟩:=b
  rw [ev17 (E:=E) hk (by (first | lia | omega +splitDisjunctions)) ⟨ak.ix,ak.lt⟩ okE.last b1 b3 b4] at T
  have out:=one_out (S:=E.send { kind:=18,to:=m.frm,frm:=E.nid,term:=m.term,lt:=0,ix:=0,rej:=false,tr:=false }) okE.out rfl
  have fl:(E.send { kind:=18,to:=m.frm,frm:=E.nid,term:=m.term,lt:=0,ix:=0,rej:=false,tr:=false }).flush=E:=El.flush_eq okE.out
  refine T.keep ((T.ne _ ix).trans T.O.lead) rfl T.O.ph T.O.self T.O.still (fun _ h=>h) (fun _=>fl▸o) (fun r hr=>?_) (fun h=>?_) (fun _ _=>?_) (fun _ q=>?_) (fun _ q=>?_) (fun _ q=>?_) ?_
  · rw [out] at hr
    rw [List.mem_singleton.mp hr]; exact ⟨tm,.inr ⟨.inl rfl,rfl,ak.frm⟩⟩
  · have h:E.state=2:=h
    (first | lia | omega +splitDisjunctions)
  · rw [out]; exact .ans _ (List.mem_singleton.mpr rfl) rfl hn
  · (first | lia | omega +splitDisjunctions)
  · (first | lia | omega +splitDisjunctions)
  · (first | lia | omega +splitDisjunctions)
  · rw [out,wt_two (.inl hk)]; exact Nat.le_refl 2
theorem openE_5 (T:TlE e L W W' m E (E.step m)) (okE:Ok1 c k E) (tm:m.term=e.T) (t2:2≤e.T) (hk:m.kind=5) (h3:L.state≠3) (ak:AskE e m) (hn:E.nid=m.to) (ix:(e.n - 1).toNat≠(m.to - 1).toNat):OpenP e W' (potE e L W.ly):=by
  have ne:=ak.to
  have o:=T.O.oth _ E T.hE (by (first | lia | omega +splitDisjunctions))
  have hf:=ak.frm
  have ev:(E.step m).out=E.out++[{ kind:=6,to:=m.frm,frm:=E.nid,term:=m.term,lt:=0,ix:=0,rej:=false,tr:=false }]∧OthE e L.state (E.step m).flush∧(E.step m).state=0:=by
    rcases o with ⟨a,b⟩ | ⟨a,b,d,f,_⟩
    · have ev:=ev5n (E:=E) hk (by (first | lia | omega +splitDisjunctions)) ⟨ak.ix,ak.lt⟩ okE.last (by (first | lia | omega +splitDisjunctions)) (b.imp (fun q=>ak.tr.trans q) fun q=>q.1)
      rw [ev]
      exact ⟨rfl,.new tm hf rfl rfl h3,rfl⟩
    · obtain ⟨E₁,hE₁,ev⟩:=ev5 (E:=E) hk (by (first | lia | omega +splitDisjunctions)) ⟨ak.ix,ak.lt⟩ okE.last f (.inr ⟨by (first | lia | omega +splitDisjunctions),by (first | lia | omega +splitDisjunctions)⟩)
      rw [ev]
      rcases hE₁ with ⟨q,q'⟩ | q<;>rw [q]
      · exact ⟨rfl,.new a hf d f h3,d⟩
      · exact ⟨rfl,.new tm hf rfl rfl h3,rfl⟩
  obtain ⟨e1,e2,e3⟩:=ev
  have out:=one_out (E:=E) (S:=E.step m) okE.out e1
  generalize E.step m=S at *
  refine T.keep ((T.ne _ ix).trans T.O.lead) rfl T.O.ph T.O.self T.O.still (fun _ h=>h) (fun _=>e2) (fun r hr=>?_) (fun h=>?_) (fun h=>absurd h h3) (fun h=>absurd h h3) (fun _ _=>?_) (fun _ q=>?_) ?_
  · rw [out] at hr
    rw [List.mem_singleton.mp hr]; exact ⟨tm,.inr ⟨.inr ⟨rfl,h3⟩,rfl,hf⟩⟩
  · (first | lia | omega +splitDisjunctions)
  · rw [out]; exact .ans _ (List.mem_singleton.mpr rfl) rfl hn
  · (first | lia | omega +splitDisjunctions)
  · rw [out,wt_two (.inr hk)]; exact Nat.le_refl 2
theorem openE_still (T:TlE e L W W' m L (L.step m)) (okE:Ok1 c k L) (to:m.to=e.n) (hk:m.kind=18∨m.kind=6) (es:L.step m=L) (h1:m.kind=18→L.state≠3) (h2:m.kind=6→L.state≠1):OpenP e W' (potE e L W.ly):=by
  rw [es] at T
  have fl:=El.flush_eq okE.out
  refine T.keep ((to▸T.put).trans (by rw [fl])) rfl T.O.ph T.O.self T.O.still (fun _ h=>h) (fun q=>?_) (fun r hr=>?_) (fun h=>⟨h,?_⟩) (fun _ q=>?_) (fun h q=>absurd h (h1 q)) (fun _ q=>?_) (fun h q=>absurd h (h2 q)) ?_
  · exact fl.symm▸T.O.oth _ L T.hE (fl▸q)
  · rw [okE.out] at hr; cases hr
  · rcases T.O.ph with q | q
    · (first | lia | omega +splitDisjunctions)
    · exact q.2.1
  · (first | lia | omega +splitDisjunctions)
  · (first | lia | omega +splitDisjunctions)
  · rw [okE.out]; exact wt_pos m
theorem openE_more (T:TlE e L W W' m L (L.step m)) (okE:Ok1 c k L) (to:m.to=e.n) (nidL:L.nid=e.n) (hk:m.kind=18∨m.kind=6) (h2:L.state≠2) (es:L.step m=L.record m.frm true) (nw:jointP (half0 e.hs) (half1 e.hs) (L.record m.frm true).votes≠3):OpenP e W' (potE e L W.ly):=by
  rw [es] at T
  obtain ⟨sf,r1,r2,r3,r4⟩:=rec_facts (E:=L) (n:=m.frm) (b:=true)
  obtain ⟨v1,v2,v3⟩:=vget_record (E:=L) (k:=m.frm) (T.O.self h2).2
  have o2:(L.record m.frm true).out=[]:=r3.trans okE.out
  have fl:=El.flush_eq o2
  refine T.keep ((to▸T.put).trans (by rw [fl])) r1 (by unfold PhE; rw [r1,r2,r4]; exact T.O.ph) (fun _=>⟨v2 e.n (T.O.self h2).1,v3⟩) (fun _=>nw) v2 (fun q=>absurd (sf.1.trans nidL) (fl▸q)) (fun r hr=>?_) (fun h=>?_) (fun _ q=>?_) (fun _ _=>.yes v1) (fun _ q=>?_) (fun _ _=>.yes v1) ?_
  · rw [o2] at hr; cases hr
  · exact absurd (r1.symm.trans h) h2
  · (first | lia | omega +splitDisjunctions)
  · (first | lia | omega +splitDisjunctions)
  · rw [o2]; exact wt_pos m
inductive CampE (e:Ec) (S:El):Prop
  | won:S.nid=e.n→S.term=e.T→S.vote=e.n→S.state=2→S.out=[]→CampE e S
  | asks:S.nid=e.n→S.term=e.T→S.vote=e.n→S.state=1→jointP (half0 e.hs) (half1 e.hs) [(e.n,true)]≠3→S.votes=[(e.n,true)]→S.out=(e.oth.map fun v=>({ kind:=5,to:=v,frm:=e.n,term:=e.T,lt:=1,ix:=1,rej:=false,tr:=e.tr }:Msg))→CampE e S
theorem campE_of {F:El} {q:Int} (hv:Hv e.hs e.size) (nid:F.nid=e.n) (conf:F.conf=confOf e.hs e.size) (last:F.last=(1,1)) (out:F.out=[]) (et:F.term + 1=e.T) (tr:e.tr=decide (q=3)):CampE e (F.campaignE q):=by
  have tl:(F.becomeCandidate.record F.becomeCandidate.nid true).tally=jointP (half0 e.hs) (half1 e.hs) [(e.n,true)]:=by
    show jointP F.conf.voters F.conf.outgoing [(F.nid,true)]=_
    rw [conf,nid]; rfl
  by_cases al:jointP (half0 e.hs) (half1 e.hs) [(e.n,true)]=3
  · have ec:F.campaignE q=(F.becomeCandidate.record F.becomeCandidate.nid true).becomeLeader:=by
      unfold El.campaignE
      dsimp only
      rw [if_pos (tl.trans al)]
    rw [ec]
    refine .won nid et ?_ rfl out
    show (if F.term + 1=F.term + 1 then F.nid else 0)=e.n
    rw [if_pos rfl]; exact nid
  · have ec:F.campaignE q={ F.becomeCandidate.record F.becomeCandidate.nid true with out:=F.out++(F.becomeCandidate.record F.becomeCandidate.nid true).reqs 5 (F.term + 1) (decide (q=3)) }:=by
      unfold El.campaignE
      dsimp only
      rw [if_neg fun z=>al (tl.symm.trans z)]
      rfl
    rw [ec]
    refine .asks nid et nid rfl al (by rw [← nid]; rfl) ?_
    show F.out++(F.becomeCandidate.record F.becomeCandidate.nid true).reqs 5 (F.term + 1) (decide (q=3))=_
    rw [out,List.nil_append]
    unfold El.reqs Ec.oth
    show ((F.conf.allV.filter fun j=>decide (j≠F.nid)).map fun j=>({ kind:=5,to:=j,frm:=F.nid,term:=F.term + 1,lt:=F.last.2,ix:=F.last.1,rej:=false,tr:=decide (q=3) }:Msg))=_
    rw [conf,hv.allV,nid,et,last,tr]
theorem asks_msg {v:Int} {s:Int} (h3:s≠3) (hv:v∈e.oth):MsgE e s { kind:=5,to:=v,frm:=e.n,term:=e.T,lt:=1,ix:=1,rej:=false,tr:=e.tr }:=by
  refine ⟨rfl,.inl ⟨.inr ⟨rfl,h3⟩,rfl,rfl,rfl,rfl,?_⟩⟩
  unfold Ec.oth at hv
  rw [List.mem_filter] at hv
  simpa using hv.2
theorem openE_round (hv:Hv e.hs e.size) (T:TlE e L W W' m L (L.polled m)) (okL:Ok1 c k L) (conf:L.conf=confOf e.hs e.size) (to:m.to=e.n) (nidL:L.nid=e.n) (hj:m.rej=false) (h3:L.state=3) (tr:e.tr=false) (new:e.led0.lookup e.T=none) (won:(L.record m.frm true).tally=3):OpenP e W' (potE e L W.ly):=by
  obtain ⟨sf,r1,r2,r3,r4⟩:=rec_facts (E:=L) (n:=m.frm) (b:=true)
  have al:=T.O.alone h3
  have ep:L.polled m=(L.record m.frm true).campaignE 2:=by
    unfold El.polled
    rw [hj]
    show (if (L.record m.frm true).tally=3 then (L.record m.frm true).won else _)=_
    rw [if_pos won]
    unfold El.won
    rw [if_pos (r1.trans h3)]
  have et:(L.record m.frm true).term + 1=e.T:=by rcases T.O.ph with q | q<;>(first | lia | omega +splitDisjunctions)
  have cp:=campE_of (e:=e) (q:=2) hv (sf.1.trans nidL) (sf.2.1.trans conf) (sf.2.2.2.2.trans okL.last) (r3.trans okL.out) et tr
  rw [← ep] at cp
  have w1:=wt_pos m
  generalize L.polled m=S at *
  have l2:L.state≠2:=by (first | lia | omega +splitDisjunctions)
  cases cp with
  | won a b d f h=>exact T.turn to (by (first | lia | omega +splitDisjunctions)) (.inr ⟨.inr f,b,d⟩) (fun q=>absurd f q) (fun q=>absurd f q) a (fun r hr=>by rw [h] at hr; cases hr) new l2 b (fun q=>by (first | lia | omega +splitDisjunctions)) (by rw [h]; exact Nat.le_trans w1 (Nat.le_add_right _ _))
  | asks a b d f h i j =>
    refine T.turn to (by (first | lia | omega +splitDisjunctions)) (.inr ⟨.inl f,b,d⟩) (fun _=>i▸selfI_one) (fun _=>by rw [i]; exact h) a (fun r hr=>?_) new l2 b (fun _ v hv=>.ask _ (j▸List.mem_map.mpr ⟨v,hv,rfl⟩) rfl rfl) ?_
    · rw [j] at hr
      obtain ⟨v,hv,rfl⟩:=List.mem_map.mp hr
      exact asks_msg (by (first | lia | omega +splitDisjunctions)) hv
    · rw [j,sumW_map fun _=>rfl,if_pos h3]; (first | lia | omega +splitDisjunctions)
theorem openE_lead (T:TlE e L W W' m L (L.polled m)) (okL:Ok1 c k L) (to:m.to=e.n) (nidL:L.nid=e.n) (hj:m.rej=false) (h1:L.state=1) (new:e.led0.lookup e.T=none) (won:(L.record m.frm true).tally=3):OpenP e W' (potE e L W.ly):=by
  obtain ⟨sf,r1,r2,r3,r4⟩:=rec_facts (E:=L) (n:=m.frm) (b:=true)
  have ep:L.polled m=(L.record m.frm true).becomeLeader:=by
    unfold El.polled
    rw [hj]
    show (if (L.record m.frm true).tally=3 then (L.record m.frm true).won else _)=_
    rw [if_pos won]
    unfold El.won
    rw [if_neg (by (first | lia | omega +splitDisjunctions))]
  have tv:L.term=e.T∧L.vote=e.n:=by rcases T.O.ph with q | q; (first | lia | omega +splitDisjunctions); exact q.2
  have f1:(L.polled m).state=2:=by rw [ep]; rfl
  have f2:(L.polled m).term=e.T:=by rw [ep]; exact r2.trans tv.1
  have f3:(L.polled m).vote=e.n:=by
    rw [ep]
    show (if (L.record m.frm true).term=(L.record m.frm true).term then (L.record m.frm true).vote else 0)=e.n
    rw [if_pos rfl,r4]; exact tv.2
  have f4:(L.polled m).nid=e.n:=by rw [ep]; exact sf.1.trans nidL
  have f5:(L.polled m).out=[]:=by rw [ep]; exact r3.trans okL.out
  have w1:=wt_pos m
  generalize L.polled m=S at *
  exact T.turn to (by (first | lia | omega +splitDisjunctions)) (.inr ⟨.inr f1,f2,f3⟩) (fun h=>absurd f1 h) (fun h=>absurd f1 h) f4 (fun r hr=>by rw [f5] at hr; cases hr) new (by (first | lia | omega +splitDisjunctions)) f2 (fun h=>by (first | lia | omega +splitDisjunctions)) (by rw [f5]; exact Nat.le_trans w1 (Nat.le_add_right _ _))
theorem openE_go (z:c.Good) (G:Good1 c g W) (as:Asker c e W) (T:TlE e L W W' m E (E.step m)) (hmem:m∈W.ly):OpenP e W' (potE e L W.ly):=by
  obtain ⟨kk,hkk,ehs⟩:=as.kn
  have hv:Hv e.hs e.size:=by rw [ehs,as.size]; exact z.hv kk
  have to:=(G.msg m hmem).to
  have n1:=((mem_voters e.n).mp as.vot).1
  have sz:=as.size
  have hlt:(m.to - 1).toNat < W.kn.length:=by rw [G.lenK]; (first | lia | omega +splitDisjunctions)
  obtain ⟨okE,nidE⟩:=G.ok _ E _ T.hE (List.getElem?_eq_getElem hlt)
  have hn:E.nid=m.to:=by (first | lia | omega +splitDisjunctions)
  have t2:=as.T
  obtain ⟨tm,⟨hk,ak⟩ | ⟨hk,hj,ht⟩⟩:=T.O.msg m hmem
  · have ne:=ak.to
    have ix:(e.n - 1).toNat≠(m.to - 1).toNat:=by (first | lia | omega +splitDisjunctions)
    rcases hk with ⟨h,tr⟩ | ⟨h,h3⟩
    · exact openE_17 T okE tm t2 h tr ak hn ix
    · exact openE_5 T okE tm t2 h h3 ak hn ix
  · have eEL:E=L:=by
      have z:=T.hE
      rw [ht] at z
      exact Option.some.inj (z.symm.trans T.O.lead)
    subst eEL
    have nid:=hn.trans ht
    have conf:E.conf=confOf e.hs e.size:=by
      rw [ehs,as.size]
      have hE:=T.hE
      rw [ht] at hE
      exact (G.ok _ E kk hE hkk).1.conf
    have tlr:(E.record m.frm true).tally=jointP (half0 e.hs) (half1 e.hs) (E.record m.frm true).votes:=by
      unfold El.tally; rw [(rec_facts (E:=E) (n:=m.frm) (b:=true)).1.2.1,conf]; rfl
    have more (h2:E.state≠2) (won:¬ (E.record m.frm true).tally=3):E.polled m=E.record m.frm true:=by
      unfold El.polled
      rw [hj]
      show (if (E.record m.frm true).tally=3 then _ else if (E.record m.frm true).tally=2 then _ else E.record m.frm true)=_
      rw [if_neg won,if_neg]
      rw [tlr]
      exact all_true_not_lost (vget_record (E:=E) (k:=m.frm) (T.O.self h2).2).2.2
    rcases hk with h18 | ⟨h6,h63⟩
    · have ev:=ev18 (E:=E) h18 hj (by (first | lia | omega +splitDisjunctions)) (by rcases T.O.ph with q | q<;>(first | lia | omega +splitDisjunctions))
      by_cases h3:E.state=3
      · rw [if_pos h3] at ev
        by_cases won:(E.record m.frm true).tally=3
        · have tr:e.tr=false:=by rcases T.O.ph with q | q; exact q.2.2; (first | lia | omega +splitDisjunctions)
          exact openE_round hv (ev▸T) okE conf ht nid hj h3 tr as.new won
        · exact openE_more T okE ht nid (.inl h18) (by (first | lia | omega +splitDisjunctions)) (ev.trans (more (by (first | lia | omega +splitDisjunctions)) won)) (fun q=>won (tlr.trans q))
      · rw [if_neg h3,if_neg (by rcases T.O.ph with q | q<;>(first | lia | omega +splitDisjunctions))] at ev
        exact openE_still T okE ht (.inl h18) ev (fun _=>h3) fun q=>by (first | lia | omega +splitDisjunctions)
    · have q:=T.O.ph.resolve_left fun q=>h63 q.1
      have ev:=ev6 (E:=E) h6 (by (first | lia | omega +splitDisjunctions)) (tm.trans q.2.1.symm) q.1
      by_cases h1:E.state=1
      · rw [if_pos h1] at ev
        by_cases won:(E.record m.frm true).tally=3
        · exact openE_lead (ev▸T) okE ht nid hj h1 as.new won
        · exact openE_more T okE ht nid (.inr h6) (by (first | lia | omega +splitDisjunctions)) (ev.trans (more (by (first | lia | omega +splitDisjunctions)) won)) (fun q=>won (tlr.trans q))
      · rw [if_neg h1] at ev
        exact openE_still T okE ht (.inr h6) ev (fun q=>by (first | lia | omega +splitDisjunctions)) fun _=>h1
end
end Mine
end
section
open PySem
namespace Mine.L01
section
variable {c:C1} {e:Ec} {L E S:El} {W W':W1} {g:Int→Int→Int} {m:Msg} {k n:Int} {j:Nat}
theorem Asker.hv (z:c.Good) (as:Asker c e W):Hv e.hs e.size:=by
  obtain ⟨k,_,h⟩:=as.kn
  rw [h,as.size]; exact z.hv k
theorem openE_tell (z:c.Good) (G:Good1 c g W) (as:Asker c e W) (O:OpenE e L W) (hm:W.ly[j]?=some m) (hE:W.mem[(m.to - 1).toNat]?=some E):OpenP e (updW (pickW W j false) m.to (E.step m)) (potE e L W.ly):=by
  have ep:(pickW W j false).ly=W.ly.eraseIdx j:=rfl
  refine openE_go (E:=E) z G as ⟨O,hE,List.getElem?_set_self (List.getElem?_eq_some_iff.mp hE).1,fun i hi=>List.getElem?_set_ne (Ne.symm hi),fun x hx=>(mem_erase hm hx).imp id fun q=>?_,fun x hx=>?_,fun x hx=>List.mem_append.mpr (.inr hx),?_,rfl⟩ (List.mem_of_getElem? hm)
  · show x∈(pickW W j false).ly++_
    rw [ep]; exact List.mem_append.mpr (.inl q)
  · have hx:x∈(pickW W j false).ly++(E.step m).out:=hx
    rw [ep] at hx
    exact (List.mem_append.mp hx).imp List.mem_of_mem_eraseIdx id
  · have:=sumW_erase hm
    show sumW ((pickW W j false).ly++(E.step m).out) + wt m=_
    rw [ep,sumW_append]; (first | lia | omega +splitDisjunctions)
noncomputable def Quiet (e:Ec) (W:W1):Prop:=∀ (i:Nat) (F:El),W.mem[i]?=some F→F.nid≠e.n→F.term=e.T - 1∧(e.tr=true∨F.leader=0∧F.state=0)
theorem upd_oth {i:Nat} {F:El} (nS:S.nid=n) (hF:(updW W n S).mem[i]?=some F) (hn:F.nid≠n):W.mem[i]?=some F:=by
  rcases set_cases hF with ⟨rfl,rfl⟩ | ⟨_,h⟩
  · exact absurd nS hn
  · exact h
theorem start_of (cp:CampE e S) (hE:W.mem[(e.n - 1).toNat]?=some E) (ly:W.ly=[]) (led:W.led=e.led0) (new:e.led0.lookup e.T=none) (oth:Quiet e W):OpenP e (updW W e.n S) (2 * e.oth.length + 1):=by
  have at':(updW W e.n S).mem[(e.n - 1).toNat]?=some S.flush:=List.getElem?_set_self (List.getElem?_eq_some_iff.mp hE).1
  have lyS:(updW W e.n S).ly=S.out:=by
    show W.ly++S.out=_
    rw [ly]; rfl
  have ledS:(updW W e.n S).led=ledP e.led0 S:=by
    show ledP W.led S=_
    rw [led]
  cases cp with
  | won a b d f h =>
    refine ⟨S.flush,⟨at',.inr ⟨.inr f,b,d⟩,fun q=>absurd f q,fun q=>absurd f q,fun q=>?_,fun i F hF hn=>?_,fun x hx=>?_,fun q=>?_,fun q=>?_,?_⟩,?_⟩
    · have q:S.state=3:=q
      (first | lia | omega +splitDisjunctions)
    · obtain ⟨p,q⟩:=oth i F (upd_oth a hF hn) hn
      exact .old p q
    · rw [lyS,h] at hx; cases hx
    · have q:S.state=3:=q
      (first | lia | omega +splitDisjunctions)
    · have q:S.state=1:=q
      (first | lia | omega +splitDisjunctions)
    · rw [ledS]
      show _=if S.state=2 then _ else _
      unfold ledP
      rw [b,a,if_pos ⟨f,new⟩,if_pos f]
    · unfold potE
      rw [lyS,h,if_neg (show ¬ S.flush.state=3 by show ¬ S.state=3; (first | lia | omega +splitDisjunctions))]
      exact Nat.succ_pos _
  | asks a b d f h i jj =>
    refine ⟨S.flush,⟨at',.inr ⟨.inl f,b,d⟩,fun _=>?_,fun _=>?_,fun q=>?_,fun i F hF hn=>?_,fun x hx=>?_,fun q=>?_,fun _ v hv=>?_,?_⟩,?_⟩
    · show SelfI e.n S.votes
      rw [i]; exact selfI_one
    · show jointP _ _ S.votes≠3
      rw [i]; exact h
    · have q:S.state=3:=q
      (first | lia | omega +splitDisjunctions)
    · obtain ⟨p,q⟩:=oth i F (upd_oth a hF hn) hn
      exact .old p q
    · rw [lyS,jj] at hx
      obtain ⟨v,hv,rfl⟩:=List.mem_map.mp hx
      exact asks_msg (show S.state≠3 by (first | lia | omega +splitDisjunctions)) hv
    · have q:S.state=3:=q
      (first | lia | omega +splitDisjunctions)
    · rw [lyS,jj]
      exact .ask _ (List.mem_map.mpr ⟨v,hv,rfl⟩) rfl rfl
    · rw [ledS]
      show _=if S.state=2 then _ else _
      unfold ledP
      rw [if_neg (fun q=>by (first | lia | omega +splitDisjunctions)),if_neg (by (first | lia | omega +splitDisjunctions))]
    · unfold potE
      rw [lyS,jj,sumW_map fun _=>rfl,if_neg (show ¬ S.flush.state=3 by show ¬ S.state=3; (first | lia | omega +splitDisjunctions))]
      (first | lia | omega +splitDisjunctions)
theorem step_hup1:E.step (El.hupMsg n)=E.hup (if E.pre=true then 1 else 2):=by
  have e:E.settle (El.hupMsg n)=(E,true):=rfl
  rw [step_of e]
  rfl
theorem hup_camp (h2:E.state≠2) (pr:E.promotable=true):E.hup k=E.campaign k:=by
  unfold El.hup
  rw [if_neg]
  intro q
  rcases q with q | q
  · exact h2 q
  · rw [q] at pr; cases pr
theorem promo (hv:Hv e.hs e.size) (conf:E.conf=confOf e.hs e.size) (nid:E.nid=e.n) (vot:e.n∈votersP e.hs e.size):E.promotable=true:=by
  unfold El.promotable
  rw [conf,hv.allV,nid]
  exact decide_eq_true vot
theorem start_first (z:c.Good) (G:Good1 c g W) (as:Asker c e W) (hE:W.mem[(e.n - 1).toNat]?=some E) (hT:e.T=2) (tr:e.tr=false) (ly:W.ly=[]) (led:W.led=e.led0) (all:∀ (i:Nat) (F:El),W.mem[i]?=some F→F.state=0∧F.leader=0∧F.term=1):OpenP e (updW W e.n (E.step (El.hupMsg e.n))) (4 * e.oth.length + 1):=by
  have hv:=Asker.hv z as
  obtain ⟨kk,hk,ehs⟩:=as.kn
  obtain ⟨ok,nidE⟩:=G.ok _ E kk hE hk
  have n1:=((mem_voters e.n).mp as.vot).1
  have nid:E.nid=e.n:=by (first | lia | omega +splitDisjunctions)
  have conf:E.conf=confOf e.hs e.size:=by rw [ehs,as.size]; exact ok.conf
  obtain ⟨a1,a2,a3⟩:=all _ E hE
  have oth:Quiet e W:=fun i F hF _=>by
    obtain ⟨b1,b2,b3⟩:=all i F hF
    exact ⟨by (first | lia | omega +splitDisjunctions),.inr ⟨b2,b1⟩⟩
  rw [step_hup1,hup_camp (by (first | lia | omega +splitDisjunctions)) (promo hv conf nid as.vot)]
  by_cases hp:E.pre=true
  · rw [if_pos hp]
    show OpenP e (updW W e.n E.campaignP) _
    have tl:(E.becomePre.record E.becomePre.nid true).tally=jointP (half0 e.hs) (half1 e.hs) [(e.n,true)]:=by
      show jointP E.conf.voters E.conf.outgoing [(E.nid,true)]=_
      rw [conf,nid]; rfl
    by_cases al:jointP (half0 e.hs) (half1 e.hs) [(e.n,true)]=3
    · have ec:E.campaignP=(E.becomePre.record E.becomePre.nid true).campaignE 2:=by
        unfold El.campaignP
        dsimp only
        rw [if_pos (tl.trans al)]
      rw [ec]
      obtain ⟨L,O,h⟩:=start_of (campE_of (e:=e) (F:=E.becomePre.record E.becomePre.nid true) (q:=2) hv nid conf ok.last ok.out (by show E.term + 1=e.T; (first | lia | omega +splitDisjunctions)) tr) hE ly led as.new oth
      exact ⟨L,O,by (first | lia | omega +splitDisjunctions)⟩
    · have ec:E.campaignP={ E.becomePre.record E.becomePre.nid true with out:=E.out++(E.becomePre.record E.becomePre.nid true).reqs 17 (E.term + 1) false }:=by
        unfold El.campaignP
        dsimp only
        rw [if_neg fun q=>al (tl.symm.trans q)]
        rfl
      have eo:E.campaignP.out=e.oth.map fun v=>({ kind:=17,to:=v,frm:=e.n,term:=e.T,lt:=1,ix:=1,rej:=false,tr:=false }:Msg):=by
        rw [ec]
        show E.out++(E.becomePre.record E.becomePre.nid true).reqs 17 (E.term + 1) false=_
        rw [ok.out,List.nil_append]
        unfold El.reqs Ec.oth
        rw [show (E.becomePre.record E.becomePre.nid true).conf=E.conf from rfl,conf,hv.allV,show (E.becomePre.record E.becomePre.nid true).nid=e.n from nid,show (E.becomePre.record E.becomePre.nid true).last=(1,1) from ok.last,a3,hT]
        rfl
      have f1:E.campaignP.state=3:=by rw [ec]; rfl
      have f2:E.campaignP.term=1:=by rw [ec]; exact a3
      have f3:E.campaignP.votes=[(e.n,true)]:=by
        rw [ec]
        show [(E.nid,true)]=_
        rw [nid]
      have f5:E.campaignP.nid=e.n:=by rw [ec]; exact nid
      generalize E.campaignP=S at *
      have lyS:(updW W e.n S).ly=S.out:=by
        show W.ly++S.out=_
        rw [ly]; rfl
      have s3:S.flush.state=3:=f1
      refine ⟨S.flush,⟨List.getElem?_set_self (List.getElem?_eq_some_iff.mp hE).1,.inl ⟨f1,by show S.term=_; (first | lia | omega +splitDisjunctions),tr⟩,fun _=>?_,fun _=>?_,fun _=>al,fun i F hF hn=>?_,fun x hx=>?_,fun _ v hv=>?_,fun q=>?_,?_⟩,?_⟩
      · show SelfI e.n S.votes
        rw [f3]; exact selfI_one
      · show jointP _ _ S.votes≠3
        rw [f3]; exact al
      · obtain ⟨p,q⟩:=oth i F (upd_oth f5 hF hn) hn
        exact .old p q
      · rw [lyS,eo] at hx
        obtain ⟨v,hv,rfl⟩:=List.mem_map.mp hx
        refine ⟨rfl,.inl ⟨.inl ⟨rfl,tr⟩,rfl,rfl,rfl,tr.symm,?_⟩⟩
        unfold Ec.oth at hv
        rw [List.mem_filter] at hv
        simpa using hv.2
      · rw [lyS,eo]
        exact .ask _ (List.mem_map.mpr ⟨v,hv,rfl⟩) rfl rfl
      · (first | lia | omega +splitDisjunctions)
      · show ledP W.led S=_
        rw [led,if_neg (by (first | lia | omega +splitDisjunctions))]
        unfold ledP
        rw [if_neg fun q=>by (first | lia | omega +splitDisjunctions)]
      · unfold potE
        rw [lyS,eo,sumW_map fun _=>rfl,if_pos s3]
        (first | lia | omega +splitDisjunctions)
  · rw [if_neg hp]
    show OpenP e (updW W e.n (E.campaignE 2)) _
    obtain ⟨L,O,h⟩:=start_of (campE_of (e:=e) (F:=E) (q:=2) hv nid conf ok.last ok.out (by (first | lia | omega +splitDisjunctions)) tr) hE ly led as.new oth
    exact ⟨L,O,by (first | lia | omega +splitDisjunctions)⟩
theorem start_heir (z:c.Good) (G:Good1 c g W) (as:Asker c e W) (hE:W.mem[(e.n - 1).toNat]?=some E) (tr:e.tr=true) (hm:W.ly=[m]) (kd:m.kind=14) (mt:m.term=e.T - 1) (led:W.led=e.led0) (s0:E.state=0) (all:∀ (i:Nat) (F:El),W.mem[i]?=some F→F.term=e.T - 1):OpenP e (updW (pickW W 0 false) e.n (E.step m)) (2 * e.oth.length + 1):=by
  have hv:=Asker.hv z as
  obtain ⟨kk,hk,ehs⟩:=as.kn
  obtain ⟨ok,nidE⟩:=G.ok _ E kk hE hk
  have n1:=((mem_voters e.n).mp as.vot).1
  have nid:E.nid=e.n:=by (first | lia | omega +splitDisjunctions)
  have conf:E.conf=confOf e.hs e.size:=by rw [ehs,as.size]; exact ok.conf
  have et:=all _ E hE
  have T2:=as.T
  have ev:E.step m=E.campaignE 3:=by
    rw [step_of (settle_eq (by (first | lia | omega +splitDisjunctions)) (by (first | lia | omega +splitDisjunctions)))]
    unfold El.after
    rw [if_neg (by (first | lia | omega +splitDisjunctions)),if_neg (by (first | lia | omega +splitDisjunctions)),if_neg (by (first | lia | omega +splitDisjunctions)),if_pos s0]
    unfold El.stepFollower
    rw [if_neg (by rw [kd]; decide),if_pos kd,hup_camp (by (first | lia | omega +splitDisjunctions)) (promo hv conf nid as.vot)]
    rfl
  rw [ev]
  have ep:(pickW W 0 false).ly=[]:=by
    show (if false=true then W.ly else W.ly.eraseIdx 0)=[]
    rw [if_neg Bool.false_ne_true,hm]; rfl
  exact start_of (W:=pickW W 0 false) (campE_of (e:=e) (F:=E) (q:=3) hv nid conf ok.last ok.out (by (first | lia | omega +splitDisjunctions)) tr) hE ep led as.new fun i F hF _=>⟨all i F hF,.inl tr⟩
structure HbI (n:Int) (W:W1):Prop where
  lead:∀ (i:Nat) (E:El),W.mem[i]?=some E→E.nid=n→E.term=2
  oth:∀ (i:Nat) (E:El),W.mem[i]?=some E→E.nid≠n→E.state=0∧(E.term=1∨E.term=2)∧(E.term=2∨∃ m,m∈W.ly∧m.to=E.nid)
  msg:∀ m∈W.ly,m.kind=8∧m.term=2∧m.frm≠0∧m.to≠n
  led:W.led=[(2,n)]
theorem step_beat (ok:Ok1 c k E) (h8:m.kind=8) (t2:m.term=2) (s0:E.state=0) (ht:E.term=1∨E.term=2):(E.step m).state=0∧(E.step m).term=2∧(E.step m).out=[]∧(E.step m).nid=E.nid:=by
  have fl:El.fromLead m.kind=true:=by rw [h8]; rfl
  rcases ht with q | q
  · have e:E.settle m=(E.becomeFollower m.term m.frm,true):=by
      unfold El.settle
      rw [if_neg (by (first | lia | omega +splitDisjunctions)),if_pos (by (first | lia | omega +splitDisjunctions))]
      unfold El.settleHigher
      rw [if_neg (fun q=>by (first | lia | omega +splitDisjunctions)),if_neg (by (first | lia | omega +splitDisjunctions)),if_neg (by (first | lia | omega +splitDisjunctions)),if_pos fl]
    rw [step_of e]
    unfold El.after
    rw [if_neg (by (first | lia | omega +splitDisjunctions)),if_neg (by (first | lia | omega +splitDisjunctions)),if_neg (show ¬ (E.becomeFollower m.term m.frm).state=2 by show ¬ (0:Int)=2; decide),if_pos (show (E.becomeFollower m.term m.frm).state=0 from rfl)]
    unfold El.stepFollower
    rw [if_pos fl]
    exact ⟨rfl,t2,ok.out,rfl⟩
  · rw [step_of (settle_eq (by (first | lia | omega +splitDisjunctions)) (by (first | lia | omega +splitDisjunctions)))]
    unfold El.after
    rw [if_neg (by (first | lia | omega +splitDisjunctions)),if_neg (by (first | lia | omega +splitDisjunctions)),if_neg (by (first | lia | omega +splitDisjunctions)),if_pos s0]
    unfold El.stepFollower
    rw [if_pos fl]
    exact ⟨s0,q,ok.out,rfl⟩
theorem hb_tell (G:Good1 c g W) (O:HbI n W) (hm:W.ly[j]?=some m) (hE:W.mem[(m.to - 1).toNat]?=some E):HbI n (updW (pickW W j false) m.to (E.step m))∧(updW (pickW W j false) m.to (E.step m)).ly.length + 1=W.ly.length:=by
  have hmem:=List.mem_of_getElem? hm
  have to:=(G.msg m hmem).to
  have hlt:(m.to - 1).toNat < W.kn.length:=by rw [G.lenK]; (first | lia | omega +splitDisjunctions)
  obtain ⟨okE,nidE⟩:=G.ok _ E _ hE (List.getElem?_eq_getElem hlt)
  have hn:E.nid=m.to:=by (first | lia | omega +splitDisjunctions)
  obtain ⟨m1,m2,_,m3⟩:=O.msg m hmem
  obtain ⟨s0,ht,_⟩:=O.oth _ E hE (by (first | lia | omega +splitDisjunctions))
  obtain ⟨f1,f2,f3,f4⟩:=step_beat okE m1 m2 s0 ht
  have ep:(pickW W j false).ly=W.ly.eraseIdx j:=rfl
  have ly:(updW (pickW W j false) m.to (E.step m)).ly=W.ly.eraseIdx j:=by
    show (pickW W j false).ly++(E.step m).out=_
    rw [f3,List.append_nil,ep]
  refine ⟨⟨fun i F hF hq=>?_,fun i F hF hq=>?_,fun x hx=>?_,?_⟩,?_⟩
  · rcases set_cases hF with ⟨rfl,rfl⟩ | ⟨_,h⟩
    · exact f2
    · exact O.lead i F h hq
  · rcases set_cases hF with ⟨rfl,rfl⟩ | ⟨hi,h⟩
    · exact ⟨f1,.inr f2,.inl f2⟩
    · obtain ⟨a,b,d⟩:=O.oth i F h hq
      refine ⟨a,b,d.imp id fun ⟨x,hx,hxe⟩=>⟨x,?_,hxe⟩⟩
      rw [ly]
      refine (mem_erase hm hx).resolve_left fun q=>hi ?_
      have hl:i < W.kn.length:=by rw [G.lenK,← G.lenM]; exact (List.getElem?_eq_some_iff.mp h).1
      have:=(G.ok i F _ h (List.getElem?_eq_getElem hl)).2
      rw [q] at hxe
      (first | lia | omega +splitDisjunctions)
  · rw [ly] at hx
    exact O.msg x (List.mem_of_mem_eraseIdx hx)
  · show ledP W.led (E.step m)=_
    unfold ledP
    rw [if_neg fun q=>by (first | lia | omega +splitDisjunctions)]; exact O.led
  · rw [ly,List.length_eraseIdx]
    have:=(List.getElem?_eq_some_iff.mp hm).1
    rw [if_pos this]; (first | lia | omega +splitDisjunctions)
end
end Mine.L01
end
section
open PySem
namespace Mine.L01
variable {dp:Nat}
open L03 (isHv Sz conf_small HasMem)
section
variable {T:TL} {ρ:En} {H:Hp} {Q:V→Hp→Prop}
theorem WX.disp {k:X} {r ws:List X} {us:List V} {ps:List (Int×V)} (p:PXs (ilv (k::r) ws) ρ (H++[.dict []]) us) (e:dPairs us=some ps) (n:(decide (ps.map (·.1)).Nodup && decide (ps.length≤8))=true) (q:Q (.ref H.length) (H++[.dict ps])):WX T (.dict (k::r) ws) ρ H Q:=by
  refine WX.step (Ev.at (f':=fun k' m=>bnd (evs (T.E k' m).x ρ (ilv (k::r) ws)) (mkDict H.length)) (H₀:=H++[O.dict []]) (Ev.bnd (Ev.mono (p T) (Is.to (Ev.all (fun _ _=>?_) q)))) fun _ _=>rfl)
  show (dictAt H.length (H++[O.dict []])).bind (fun es=>(dPairs us).bind fun ps=>cond (es.isEmpty && (decide (ps.map (·.1)).Nodup && decide (ps.length≤8))) (some (V.ref H.length,(H++[O.dict []]).set H.length (O.dict ps))) none)=_
  have e1:dictAt H.length (H++[O.dict []])=some []:=by
    unfold dictAt
    rw [List.getElem?_append_right (Nat.le_refl _),Nat.sub_self]; rfl
  rw [e1,e]
  show cond (true && (decide (ps.map (·.1)).Nodup && decide (ps.length≤8))) _ _=_
  rw [n]
  show some (V.ref H.length,(H++[O.dict []]).set H.length (O.dict ps))=_
  rw [List.set_append_right _ _ (Nat.le_refl _),Nat.sub_self]; rfl
theorem eq_dict {a b:Nat} {es es':List (Int×V)} {t:Bool} (h:H[a]?=some (.dict es)) (k:H[b]?=some (.dict es')) (e:dSame es es'=some t):cmpV .Eq (.ref a) (.ref b) H=some (.bool t):=by
  obtain ⟨h1,h2⟩:=dict_at h
  obtain ⟨k1,k2⟩:=dict_at k
  refine congrArg (Option.map V.bool) (?_:eqV H (.ref a) (.ref b)=some t)
  show els none (els (both PyData.eqv ((listAt a H).bind _) ((listAt b H).bind _)) (els ((both Prod.mk ((listAt a H).map List.isEmpty) ((listAt b H).map List.isEmpty)).bind _) ((dictAt a H).bind fun es=>(dictAt b H).bind fun es'=>dSame es es')))=_
  rw [h1,k1,h2,k2]
  exact e
theorem same1 {f:Int}:dSame [(2,.int f)] [(2,.int f)]=some true:=by
  simp [dSame,dkeys,dval,dget,intO]
theorem same2 {f h:Int}:dSame [(3,.int h),(2,.int f)] [(2,.int f),(3,.int h)]=some true:=by
  simp [dSame,dkeys,dval,dget,intO]
theorem cmp_nil {a b:Nat} {is:List Int} (h:H[a]?=some (zs is)) (k:H[b]?=some (.list [])):cmpV .Eq (.ref a) (.ref b) H=some (.bool (decide (is=[]))):=by
  refine congrArg (Option.map V.bool) ((L03.eq_of rfl (L03.dOf_at h (toDs_ints 2 is)) (L03.dOf_at k rfl)).trans (congrArg some ?_))
  rcases is with _ | ⟨a,l⟩
  · rw [List.map_nil,PyData.eqv,PyData.eqvAll]; rfl
  · rw [List.map_cons,PyData.eqv,PyData.eqvAll]; rfl
end
section
variable {c:C1} {R:Rt} {G D:Gh} {W:W1} {g:Int→Int→Int} {n0:Nat} {Q:V→Hp→Prop}
inductive TA (c:C1) (R:Rt) (G:Gh) (J:W1→Nat→Prop) (φ n0 i:Nat) (e:Option V→En) (ρ:En) (H:Hp):Prop
  | mk (D:Gh) (W':W1) (g':Int→Int→Int) (n' φ':Nat):H=D.h→Ch G D→Wd c R D W' g' n'→Good1 c g' W'→J W' φ'→(W'.ly=[]∨φ' + i≤φ)→n'≤n0 + i→∀ u:Option V,ρ=e u→TA c R G J φ n0 i e ρ H
theorem ws_told {N:Nat} {NI:Int} {lv av wv:Nat} {ix:X} {ev:Option V→En} {ss:List S} {QF:Fl→En→Hp→Prop} {φ:Nat} {u0:Option V} (J:W1→Nat→Prop) (pos:Nat→Nat) (hNI:NI=(N:Int))
    (z:c.Good) (gd:Good1 c g W) (w:Wd c R G W g n0) (j0:J W φ) (hφ:φ≤N) (hN:N < 100) (nl:n0 + N + 2 < 10000)
    (inv:∀ W φ,J W φ→(φ:Int)≤W.left∧W.ly.length≤φ) (hpos:∀ l,0 < l→pos l < l)
    (set:∀ u v,setLoc (ev u) lv v=ev (some v)) (ea:∀ u,(ev u)[av]?=some (some (.ref R.aL))) (ew:∀ u,(ev u)[wv]?=some (some (wV c R)))
    (px:∀ u D (l:Nat),lenV (D:Gh).h (.ref R.aL)=some (l:Int)→0 < l→PX (ev u) D.h ix (.int (pos l:Nat)))
    (turn:∀ W g φ m E,Good1 c g W→J W φ→W.ly[pos W.ly.length]?=some m→W.mem[(m.to - 1).toNat]?=some E→∃ φ',φ' < φ∧J (updW (pickW W (pos W.ly.length) false) m.to (E.step m)) φ')
    (k:∀ D W' g' n' φ' u,Ch G D→Wd c R D W' g' n'→Good1 c g' W'→J W' φ'→W'.ly=[]→n'≤n0 + N→WS (T1 (dp + 16)) ss (ev u) D.h QF) :
    WS (T1 (dp + 16)) (.forr lv true [.const (.int NI)] [.ite (.bop true [.loc av,.not (.call 67 [.loc wv,ix,.const (.bool false),.const (.int 0)])]) [.ret (.const (.bool false))] []]::ss) (ev u0) G.h QF:=by
  subst hNI
  refine WS.forRange1 (WX.p PX.const ⟨N,rfl,small_of (by (first | lia | omega +splitDisjunctions)),ForG.range (fun i=>TA c R G J φ n0 i ev) (by simp only [lim]; (first | lia | omega +splitDisjunctions)) ⟨G,W,g,n0,φ,rfl,Ch.refl w.len,w,gd,j0,.inr (Nat.le_refl _),Nat.le_refl _,u0,rfl⟩ ?_ ?_⟩)
  · rintro i ρ H hi ⟨D,W',g',n',φ',rfl,x,w',gd',j',hd,hn',u,rfl⟩
    obtain ⟨hl,hlen⟩:=inv W' φ' j'
    obtain ⟨ls,l1,l2⟩:=w'.ly
    have tv:truthV D.h (.ref R.aL)=some (!(ls.map V.ref).isEmpty):=truth_list l1.2
    have lsl:=l2.length
    rw [set]
    cases hly:W'.ly with
    | nil =>
      have ls0:ls=[]:=by rw [hly] at lsl; exact List.length_eq_zero_iff.mp lsl
      refine WS.iteV (v:=.ref R.aL) (b:=false) (PX.bopF (b:=true) (PX.loc (ea _)) (by rw [tv,ls0]; rfl)) (by rw [tv,ls0]; rfl) (fun h=>nB h) (fun _=>WS.nil ⟨D,W',g',n',φ',rfl,x,w',gd',j',.inl hly,by (first | lia | omega +splitDisjunctions),_,rfl⟩)
    | cons m0 l0 =>
      have hpos':0 < W'.ly.length:=by rw [hly]; exact Nat.succ_pos _
      have ne:ls≠[]:=by rintro rfl; have:0=W'.ly.length:=lsl; (first | lia | omega +splitDisjunctions)
      have hle:φ' + i≤φ:=by
        rcases hd with q | q
        · rw [hly] at q; cases q
        · exact q
      have pl:=hpos _ hpos'
      refine WS.iteW (WX.bop (WX.p (PX.loc (ea _)) ⟨true,by rw [tv]; simpa using ne,fun _=>WX.bop1 (WX.not (WX.call (WXs.p (PXs.cons (PX.loc (ew _)) (PXs.cons (px _ D _ w'.len_ly hpos') (PXs.cons PX.const (PXs.cons PX.const PXs.nil)))) ?_))),fun h=>nB h.symm⟩))
      refine wf_tell z gd' w' (by simp only [lim]; (first | lia | omega +splitDisjunctions)) (by simp only [lim]; (first | lia | omega +splitDisjunctions)) (by (first | lia | omega +splitDisjunctions)) (fun q=>?_) fun D2 m W2 g2 y hm hp w2 gd2 ad=>?_
      · exfalso; (first | lia | omega +splitDisjunctions)
      · obtain ⟨E,_,hE,_,_⟩:=gd'.at (gd'.msg m (List.mem_of_getElem? hm)).to
        obtain ⟨φ2,h2,j2⟩:=turn W' g' φ' m E gd' j' hm hE
        have eW:=((ad E hE).eq rfl).1
        have j2':J W2 φ2:=eW.symm▸j2
        exact ⟨true,rfl,false,rfl,fun q=>nB q,fun _=>WS.nil ⟨D2,W2,g2,n' + 1,φ2,rfl,Ext.trans x y,w2,gd2,j2',.inr (by (first | lia | omega +splitDisjunctions)),by (first | lia | omega +splitDisjunctions),_,rfl⟩⟩
  · rintro ρ H ⟨D,W',g',n',φ',rfl,x,w',gd',j',hd,hn',u,rfl⟩
    refine k D W' g' n' φ' u x w' gd' j' ?_ (by (first | lia | omega +splitDisjunctions))
    rcases hd with q | q
    · exact q
    · have:=(inv W' φ' j').2
      exact List.length_eq_zero_iff.mp (by (first | lia | omega +splitDisjunctions))
theorem px_new {u:Option V} {ev:Option V→En} {a:Nat} (ea:∀ u,(ev u)[a]?=some (some (.ref R.aL))) {D:Gh} {l:Nat} (h:lenV D.h (.ref R.aL)=some (l:Int)) (hl:0 < l):PX (ev u) D.h (.bin .Sub (.len (.loc a)) (.const (.int 1))) (.int ((l - 1:Nat):Int)):=by
  rw [show ((l - 1:Nat):Int)=(l:Int) - 1 by (first | lia | omega +splitDisjunctions)]
  exact PX.bin (PX.len (PX.loc (ea u)) h) PX.const rfl
end
end Mine.L01
end
section
open PySem
namespace Mine.L01
variable {dp:Nat}
open L03 (isHv Sz conf_small HasMem)
section
variable {c:C1} {R:Rt} {G D:Gh} {W:W1} {g:Int→Int→Int} {n0:Nat} {Q:V→Hp→Prop} {n:Int} {r:Nat}
noncomputable abbrev hE (c:C1) (R:Rt) (n:Int) (r:Nat) (x12 x13:Option V):En :=
  [some (wV c R),some (.int n),some (.ref R.aM),some (.ref R.aS),some (.ref R.aL),some (.ref R.aD),some (.ref R.aG),some (.ref R.aK),some (.ref R.aC),some (.int c.bits),some (.ref R.aF),some (.ref r),x12,x13]
structure HP (c:C1) (W:W1) (n:Int) (i:Nat) (l:List Msg) (hs:List Int):Prop where
  len:l.length + (if n≤i then 1 else 0)≤i
  msg:∀ m∈l,m.kind=8∧m.term=2∧m.frm=n∧m.to≠n∧1≤m.to∧m.to≤c.size
  cov:∀ j:Int,1≤j→j≤i→j≠n→∃ m,m∈l∧m.to=j
  heirs:∀ h∈hs,h≠n∧(1≤h∧h≤c.size)∧∃ k,W.kn[(h - 1).toNat]?=some k∧h∈votersP (c.hs k) c.size
  hl:hs.length≤i
inductive HL (c:C1) (R:Rt) (G:Gh) (W:W1) (g:Int→Int→Int) (n0:Nat) (n:Int) (r i:Nat) (ev:Option V→En) (ρ:En) (H:Hp):Prop
  | mk (D:Gh) (l:List Msg) (hs:List Int):H=D.h→Ext (fun τ=>τ=103∨τ=108) G D→Wd c R D { W with ly:=W.ly++l } g n0→At D 108 r (zs hs)→HP c W n i l hs→∀ u:Option V,ρ=ev u→HL c R G W g n0 n r i ev ρ H
theorem Wd.other {τ q:Nat} {o p:O} (w:Wd c R G W g n0) (lm:W.mem.length < 100) (a:At G τ q o) (h:107 < τ):Wd c R (G.put q p) W g n0∧Ext (·=τ) G (G.put q p):=by
  have x:Ext (·=τ) G (G.put q p):=.put w.len a rfl
  exact ⟨⟨x.len,w.mem.hi x (by (first | lia | omega +splitDisjunctions)) lm (fun _ f=>by (first | lia | omega +splitDisjunctions)),x.keep _ _ _ (by (first | lia | omega +splitDisjunctions)) w.sav,w.ly.ext x (by (first | lia | omega +splitDisjunctions)) (by (first | lia | omega +splitDisjunctions)),x.keep _ _ _ (by (first | lia | omega +splitDisjunctions)) w.left,x.keep _ _ _ (by (first | lia | omega +splitDisjunctions)) w.led,w.ledl,w.giv.ext x (by (first | lia | omega +splitDisjunctions)),x.keep _ _ _ (by (first | lia | omega +splitDisjunctions)) w.kn,w.cf.ext x (by (first | lia | omega +splitDisjunctions))⟩,x⟩
theorem ws_heirs (z:c.Good) (gd:Good1 c g W) (w:Wd c R G W g n0) (ll:W.ly.length < 100) (hn:1≤n∧n≤c.size) (ar:At G 108 r (zs [])) {x12 x13:Option V} {ss:List S} {QF:Fl→En→Hp→Prop}
    (k:∀ D l hs u,Ext (fun τ=>τ=103∨τ=108) G D→Wd c R D { W with ly:=W.ly++l } g n0→At D 108 r (zs hs)→HP c W n c.size l hs→WS (T1 (dp + 1)) ss (hE c R n r u x13) D.h QF) :
    WS (T1 (dp + 1)) (.forr 12 true [(.const (.int 1)),(.bin .Add (.len (.loc 2)) (.const (.int 1)))] [.ite (.cmp .NotEq (.loc 12) (.loc 1)) [.expr (.append (.loc 4) (.new 0 [(.const (.int 8)),(.loc 12),(.loc 1),(.const (.int 2))])),.ite (.any (.comp (.cmp .In (.loc 12) (.loc 14)) false [(.sub (.loc 8) (.sub (.loc 7) (.bin .Sub (.loc 12) (.const (.int 1)))))] none)) [.expr (.append (.loc 11) (.loc 12))] []] []]::ss) (hE c R n r x12 x13) G.h QF:=by
  have zs':=z.size
  have lm:=gd.lenM
  obtain ⟨es,b1,b2,b3⟩:=id w.mem
  have hl:lenV G.h (.ref R.aM)=some (c.size:Int):=by rw [len_list b1.2,List.length_map,b2,lm]
  refine WS.forRange2 (m:=1) (n:=(c.size:Int) + 1) PX.const (PX.bin (PX.len (PX.loc rfl) hl) PX.const rfl) rfl (small_of (by (first | lia | omega +splitDisjunctions))) (ForG.range (fun i=>HL c R G W g n0 n r i fun u=>hE c R n r u x13) (by simp only [lim]; (first | lia | omega +splitDisjunctions)) ⟨G,[],[],rfl,Ext.refl w.len,by rw [List.append_nil]; exact w,ar,⟨?_,fun m hm=>(List.not_mem_nil hm).elim,fun j h1 h2 _=>by (first | lia | omega +splitDisjunctions),fun h hh=>(List.not_mem_nil hh).elim,Nat.le_refl _⟩,x12,rfl⟩ ?_ ?_)
  · rw [if_neg (by (first | lia | omega +splitDisjunctions))]; exact Nat.le_refl _
  · rintro i ρ H hi ⟨D,l,hs,rfl,x,w1,a1,hp,u,rfl⟩
    have hi':i < c.size:=by (first | lia | omega +splitDisjunctions)
    have hin:=hp.len
    refine WS.ite (by tb_rel) (fun h=>?_) (fun h=>?_)
    · have hne:(1:Int) + i≠n:=by simpa using h
      refine WS.expr (wx_letter w1 (by show W.mem.length < 100; (first | lia | omega +splitDisjunctions)) (by show (W.ly++l).length + 10 < lim; rw [List.length_append]; simp only [lim]; split at hin<;>(first | lia | omega +splitDisjunctions)) (PX.loc rfl) (kd:=8) PX.const (PX.loc rfl) (PX.loc rfl) PX.const fun D2 x2 w2=>?_)
      rw [show ({ W with ly:=W.ly++l }:W1).ly++[⟨8,1 + (i:Int),n,2,0,0,false,false⟩]=W.ly++(l++[⟨8,1 + (i:Int),n,2,0,0,false,false⟩]) from List.append_assoc ..] at w2
      have a2:=x2.keep _ _ _ (by decide) a1
      have X:Ext (fun τ=>τ=103∨τ=108) G D2:=x.trans (x2.weaken fun _ f=>.inl f)
      obtain ⟨kn,hk⟩:∃ kn,W.kn[i]?=some kn:=⟨_,List.getElem?_eq_getElem (by rw [gd.lenK]; exact hi')⟩
      have k01:=gd.kn kn (List.mem_of_getElem? hk)
      obtain ⟨rk,sc,hh⟩:=Cfs.at w2.cf k01
      have next:∀ hs',(∀ h∈hs',h∈hs∨h=1 + (i:Int)∧h∈votersP (c.hs kn) c.size)→hs'.length≤hs.length + 1→HP c W n (i + 1) (l++[⟨8,1 + (i:Int),n,2,0,0,false,false⟩]) hs':=by
        intro hs' sub hle
        refine ⟨?_,fun m hm=>?_,fun j h1 h2 h3=>?_,fun h hh=>?_,by have:=hp.hl; (first | lia | omega +splitDisjunctions)⟩
        · rw [List.length_append]
          show l.length + 1 + _≤_
          by_cases q:n≤(i:Int)
          · rw [if_pos q] at hin
            rw [if_pos (by (first | lia | omega +splitDisjunctions))]; (first | lia | omega +splitDisjunctions)
          · rw [if_neg q] at hin
            rw [if_neg (by (first | lia | omega +splitDisjunctions))]; (first | lia | omega +splitDisjunctions)
        · rcases List.mem_append.mp hm with q | q
          · exact hp.msg m q
          · rw [List.mem_singleton.mp q]
            exact ⟨rfl,rfl,rfl,hne,by show (1:Int)≤1 + i; (first | lia | omega +splitDisjunctions),by show (1 + i:Int)≤_; (first | lia | omega +splitDisjunctions)⟩
        · by_cases q:j=1 + (i:Int)
          · exact ⟨_,List.mem_append.mpr (.inr (List.mem_singleton.mpr rfl)),q.symm⟩
          · obtain ⟨m,hm,e⟩:=hp.cov j h1 (by (first | lia | omega +splitDisjunctions)) h3
            exact ⟨m,List.mem_append.mpr (.inl hm),e⟩
        · rcases sub h hh with q | ⟨q,q'⟩
          · exact hp.heirs h q
          · refine ⟨q▸hne,by (first | lia | omega +splitDisjunctions),kn,?_,q'⟩
            rw [show (h - 1).toNat=i by (first | lia | omega +splitDisjunctions)]; exact hk
      have ps:∀ D',Grow D2 D'→PX (hE c R n r (some (.int (1 + (i:Int)))) x13) D'.h (.sub (.loc 8) (.sub (.loc 7) (.bin .Sub (.loc 12) (.const (.int 1))))) (.ref rk):=by
        intro D' y
        have wD:=w2.grow y
        obtain ⟨rk',sc',_⟩:=Cfs.at wD.cf k01
        have e:rk'=rk:=by
          obtain ⟨r0,r1,b,_,_⟩:=w2.cf
          have s1:=sub_ref (i:=.int kn) b.2
          have s2:=sub_ref (i:=.int kn) (y.keep _ _ _ id b).2
          have:=(sc'.symm.trans s2).trans (s1.symm.trans sc)
          exact V.ref.inj (Option.some.inj this)
        rw [e] at sc'
        have sk:subV (.ref R.aK) (.int (i:Int)) D'.h=some (.int kn):=sub_nat wD.kn.2 (by (first | lia | omega +splitDisjunctions)) (small_of (by (first | lia | omega +splitDisjunctions))) (by rw [Int.toNat_natCast,List.getElem?_map]; show (W.kn[i]?).map V.int=_; rw [hk]; rfl)
        have pm:PX (hE c R n r (some (.int (1 + (i:Int)))) x13) D'.h (.bin .Sub (.loc 12) (.const (.int 1))) (.int (i:Int)):=by
          have:binV .Sub (.int (1 + (i:Int))) (.int 1) D'.h=some (.int (1 + (i:Int) - 1),D'.h):=rfl
          rw [show 1 + (i:Int) - 1=i by (first | lia | omega +splitDisjunctions)] at this
          exact PX.bin (PX.loc rfl) PX.const this
        exact PX.sub (PX.loc rfl) (PX.sub (PX.loc rfl) pm sk) sc'
      refine WS.iteW ((L03.wx_inhalf (G:=D2) (D:=D2) (i:=12) (n:=14) (j:=1 + (i:Int)) (Ext.refl w2.len) hh (by have:=(C1.Good.sz z kn).len; (first | lia | omega +splitDisjunctions)) ps rfl rfl (by decide)).mono ?_)
      rintro _ H1 ⟨rfl,D3,rfl,y3⟩
      have w3:=w2.grow y3
      have a3:=y3.keep _ _ _ id a2
      have X3:Ext (fun τ=>τ=103∨τ=108) G D3:=X.trans (y3.weaken fun _ f=>f.elim)
      refine ⟨_,rfl,fun q=>?_,fun _=>?_⟩
      · have hv:1 + (i:Int)∈votersP (c.hs kn) c.size:=(mem_voters _).mpr ⟨by (first | lia | omega +splitDisjunctions),by simpa using q⟩
        have hle:=hp.hl
        refine WS.expr (WX.append (PX.loc rfl) a3.2 (WX.p (PX.loc rfl) ⟨_,a3.2,by rw [List.length_map]; simp only [lim]; (first | lia | omega +splitDisjunctions),?_⟩))
        obtain ⟨w4,y4⟩:=Wd.other (p:=.list (hs.map V.int++[.int (1 + (i:Int))])) w3 (by show W.mem.length < 100; (first | lia | omega +splitDisjunctions)) a3 (by decide)
        refine WS.nil ⟨D3.put r (.list (hs.map V.int++[.int (1 + (i:Int))])),l++[⟨8,1 + (i:Int),n,2,0,0,false,false⟩],hs++[1 + (i:Int)],rfl,X3.trans (y4.weaken fun _ f=>.inr f),w4,?_,next (hs++[1 + (i:Int)]) (fun h hh=>(List.mem_append.mp hh).imp id fun q=>⟨List.mem_singleton.mp q,List.mem_singleton.mp q▸hv⟩) (by rw [List.length_append]; exact Nat.le_refl _),_,rfl⟩
        have:=a3.put (p:=.list (hs.map V.int++[.int (1 + (i:Int))]))
        unfold zs
        rw [List.map_append]
        exact this
      · exact WS.nil ⟨D3,_,hs,rfl,X3,w3,a3,next hs (fun h hh=>.inl hh) (Nat.le_succ _),_,rfl⟩
    · have hne:(1:Int) + i=n:=by simpa using h
      refine WS.nil ⟨D,l,hs,rfl,x,w1,a1,⟨?_,hp.msg,fun j h1 h2 h3=>hp.cov j h1 (by (first | lia | omega +splitDisjunctions)) h3,hp.heirs,by have:=hp.hl; (first | lia | omega +splitDisjunctions)⟩,_,rfl⟩
      rw [if_neg (by (first | lia | omega +splitDisjunctions))] at hin
      rw [if_pos (by (first | lia | omega +splitDisjunctions))]; (first | lia | omega +splitDisjunctions)
  · rintro ρ H ⟨D,l,hs,rfl,x,w1,a1,hp,u,rfl⟩
    have e:((c.size:Int) + 1 - 1).toNat=c.size:=by (first | lia | omega +splitDisjunctions)
    rw [e] at hp
    exact k D l hs u x w1 a1 hp
theorem oth_len (z:c.Good) {e:Ec} (h:e.size=c.size):e.oth.length≤5:=by
  have zs:=z.size
  unfold Ec.oth
  have h1:=List.length_filter_le (fun j=>decide (j≠e.n)) (votersP e.hs e.size)
  have h2:=List.length_filter_le (fun j=>e.hs.any fun h=>decide (j∈h)) (upTo e.size)
  rw [upTo,List.length_map,List.length_range] at h2
  have h3:(votersP e.hs e.size).length≤e.size:=h2
  (first | lia | omega +splitDisjunctions)
theorem pot_len {e:Ec} {L:El}:W.ly.length≤potE e L W.ly:=Nat.le_trans (len_sumW W.ly) (Nat.le_add_right _ _)
inductive J3 (c:C1) (e:Ec) (tm:Msg) (W:W1) (φ:Nat):Prop
  | begin:Asker c e W→(φ:Int)≤W.left→W.ly=[tm]→W.led=e.led0→(∀ (i:Nat) (E:El),W.mem[i]?=some E→E.term=e.T - 1)→(∀ E,W.mem[(e.n - 1).toNat]?=some E→E.state=0)→2 * e.oth.length + 1≤φ→J3 c e tm W φ
  | go (L:El):Asker c e W→(φ:Int)≤W.left→OpenE e L W→potE e L W.ly≤φ→J3 c e tm W φ
theorem Asker.upd {e:Ec} (as:Asker c e W) {j:Nat} {S:El} {n:Int}:Asker c e (updW (pickW W j false) n S):=⟨as.vot,as.kn,as.size,as.T,as.new⟩
theorem j3_turn (z:c.Good) {e:Ec} {tm:Msg} (k14:tm.kind=14) (to:tm.to=e.n) (tt:tm.term=e.T - 1) (tr:e.tr=true) {φ:Nat} {m:Msg} {E:El} (gd:Good1 c g W) (h:J3 c e tm W φ) (hm:W.ly[W.ly.length - 1]?=some m) (hE:W.mem[(m.to - 1).toNat]?=some E) :
    ∃ φ',φ' < φ∧J3 c e tm (updW (pickW W (W.ly.length - 1) false) m.to (E.step m)) φ':=by
  rcases h with ⟨as,l,ly,led,all,s0,hφ⟩ | ⟨L,as,l,O,hφ⟩
  · have em:m=tm:=by rw [ly] at hm; exact (Option.some.inj hm).symm
    subst em
    have el:W.ly.length - 1=0:=by rw [ly]; rfl
    rw [el]
    rw [to] at hE ⊢
    obtain ⟨L,O,h⟩:=start_heir z gd as hE tr ly k14 tt led (s0 E hE) all
    exact ⟨2 * e.oth.length,by (first | lia | omega +splitDisjunctions),.go L (Asker.upd as) (by show _≤W.left - 1; (first | lia | omega +splitDisjunctions)) O (by (first | lia | omega +splitDisjunctions))⟩
  · obtain ⟨L',O',h⟩:=openE_tell z gd as O hm hE
    exact ⟨potE e L W.ly - 1,by (first | lia | omega +splitDisjunctions),.go L' (Asker.upd as) (by show _≤W.left - 1; (first | lia | omega +splitDisjunctions)) O' (by (first | lia | omega +splitDisjunctions))⟩
theorem wf_handed (z:c.Good) (gd:Good1 c g W) (w:Wd c R G W g n0) (nl:n0 < 5000) (hn:1≤n∧n≤c.size) (ly:W.ly=[]) (led:W.led=[(2,n)]) (left:20≤W.left)
    (h1:∀ (i:Nat) (E:El),W.mem[i]?=some E→E.nid=n→E.term=2) (h2:∀ (i:Nat) (E:El),W.mem[i]?=some E→E.nid≠n→E.state=0∧(E.term=1∨E.term=2))
    (kk:∀ D W' g' n',Wd c R D W' g' n'→Good1 c g' W'→n'≤n0 + 40→W'.ly=[]→Q (.bool true) D.h):WF (T1 (dp + 17)) 70 [wV c R,.int n] G.h Q:=by
  have zs':=z.size
  have lm:=gd.lenM
  refine WF.go rfl rfl ?_
  refine WS.unpack (WX.p (PX.loc rfl) ⟨_,_,rfl,rfl,?_⟩)
  refine WS.asg (WX.list (WXs.nil ?_))
  have x1:Grow G (G.new 108 (.list [])):=Ext.new w.len 108 _
  have a1:At (G.new 108 (.list [])) 108 G.h.length (zs []):=At.fresh w.len 108 _
  have w1:=w.grow x1
  show WS _ _ _ (G.new 108 (.list [])).h _
  generalize G.new 108 (.list [])=G1 at *
  generalize G.h.length=r at *
  refine ws_heirs (dp:=dp + 15) (r:=r) (x12:=none) (x13:=none) z gd w1 (by rw [ly]; decide) hn a1 fun D l hs u x2 w2 a2 hp=>?_
  have sz:=hp.len
  rw [if_pos hn.2] at sz
  have lyl:({ W with ly:=W.ly++l }:W1).ly=l:=by show W.ly++l=l; rw [ly]; rfl
  have gd2:Good1 c g { W with ly:=W.ly++l }:=good1_add gd fun m hm=>by
    obtain ⟨p1,p2,p3,p4,p5,p6⟩:=hp.msg m hm
    exact ⟨⟨.inr (.inr (.inr (.inl p1))),by (first | lia | omega +splitDisjunctions),by (first | lia | omega +splitDisjunctions),⟨p5,p6⟩⟩,by (first | lia | omega +splitDisjunctions)⟩
  have hb:HbI n { W with ly:=W.ly++l }:=by
    refine ⟨h1,fun i E hE hq=>?_,fun m hm=>?_,led⟩
    · obtain ⟨p,q⟩:=h2 i E hE hq
      refine ⟨p,q,.inr ?_⟩
      obtain ⟨k,hk⟩:∃ k,W.kn[i]?=some k:=⟨_,List.getElem?_eq_getElem (by rw [gd.lenK,← lm]; exact (List.getElem?_eq_some_iff.mp hE).1)⟩
      have nid:=(gd.ok i E k hE hk).1.nid
      obtain ⟨m,hm,e⟩:=hp.cov E.nid nid.1 nid.2 hq
      exact ⟨m,by rw [lyl]; exact hm,e⟩
    · rw [lyl] at hm
      obtain ⟨p1,p2,p3,p4,p5,p6⟩:=hp.msg m hm
      exact ⟨p1,p2,by (first | lia | omega +splitDisjunctions),p4⟩
  refine ws_told (N:=4) (φ:=4) (ev:=fun v=>hE c R n r u v) (fun W' φ=>HbI n W'∧W'.ly.length≤φ∧(φ:Int) + 11≤W'.left∧W'.kn=W.kn) (fun _=>0) rfl z gd2 w2 ⟨hb,by rw [lyl]; (first | lia | omega +splitDisjunctions),by show (4:Int) + 11≤W.left; (first | lia | omega +splitDisjunctions),rfl⟩ (Nat.le_refl 4) (by decide) (by (first | lia | omega +splitDisjunctions)) (fun W' φ h=>⟨by (first | lia | omega +splitDisjunctions),h.2.1⟩) (fun _ h=>h) (fun _ _=>rfl) (fun _=>rfl) (fun _=>rfl) (fun _ _ _ _ _=>PX.const) (fun W' g' φ m E gd' h hm hE=>?_) fun D3 W3 g3 n3 φ3 u3 x3 w3 gd3 j3 e3 hn3=>?_
  · obtain ⟨p,q⟩:=hb_tell gd' h.1 hm hE
    exact ⟨φ - 1,by (first | lia | omega +splitDisjunctions),p,by (first | lia | omega +splitDisjunctions),by show _≤W'.left - 1; (first | lia | omega +splitDisjunctions),h.2.2.2⟩
  · obtain ⟨hb3,_,left3,kn3⟩:=j3
    have a3:=x3.keep _ _ _ (by decide) a2
    obtain ⟨ls3,l31,l32⟩:=w3.ly
    have ls0:ls3=[]:=by have:=l32.length; rw [e3] at this; exact List.length_eq_zero_iff.mp this
    rw [ls0] at l31
    have y4:Grow D3 (D3.new 0 (.list [])):=Ext.new w3.len 0 _
    have b4:=At.fresh w3.len 0 (.list [])
    have w4:=w3.grow y4
    have a4:=y4.keep _ _ _ id a3
    have l41:=y4.keep _ _ _ id l31
    have lm3:=gd3.lenM
    refine WS.iteW (WX.cmp (WX.p (PX.loc rfl) (WX.list (WXs.nil ⟨_,cmp_nil a4.2 b4.2,_,rfl,fun _=>?_,fun hne=>?_⟩))))
    · show WS _ _ _ (D3.new 0 (.list [])).h _
      generalize D3.new 0 (.list [])=D4 at *
      have y5:Grow D4 (D4.new 0 (.list [])):=Ext.new w4.len 0 _
      refine WS.ret (WX.cmp (WX.p (PX.loc rfl) (WX.list (WXs.nil ⟨_,cmp_nil (is:=[]) (y5.keep _ _ _ id l41).2 (At.fresh w4.len 0 _).2,?_⟩))))
      exact kk (D4.new 0 (.list [])) W3 g3 n3 (w4.grow y5) gd3 (by (first | lia | omega +splitDisjunctions)) e3
    · have hne':hs≠[]:=of_decide_eq_false hne
      obtain ⟨h0,hs0,rfl⟩:∃ h0 hs0,hs=h0::hs0:=by
        rcases hs with _ | ⟨a,b⟩
        · exact absurd rfl hne'
        · exact ⟨a,b,rfl⟩
      show WS _ _ _ (D3.new 0 (.list [])).h _
      generalize D3.new 0 (.list [])=D4 at *
      obtain ⟨hq,hr,kh,hkh,hvot⟩:=hp.heirs h0 List.mem_cons_self
      have s0:subV (.ref r) (.int 0) D4.h=some (.int h0):=(sub_ref (vs:=(h0::hs0).map V.int) a4.2).trans rfl
      refine WS.expr (wx_letter w4 (by (first | lia | omega +splitDisjunctions)) (by rw [e3]; decide) (PX.loc rfl) (kd:=14) PX.const (PX.sub (PX.loc rfl) PX.const s0) (PX.loc rfl) PX.const fun D5 x5 w5=>?_)
      have gd5:=good1_add (l:=[⟨14,h0,n,2,0,0,false,false⟩]) gd3 fun m hm=>by
        rw [List.mem_singleton.mp hm]
        exact ⟨⟨.inr (.inr (.inr (.inr (.inl rfl)))),by show (1:Int)≤2; decide,hn,hr⟩,by show (14:Int)≠6; decide⟩
      have a5:=x5.keep _ _ _ (by decide) a4
      have jb:J3 c ⟨c.hs kh,c.size,h0,3,true,[(2,n)]⟩ ⟨14,h0,n,2,0,0,false,false⟩ { W3 with ly:=W3.ly++[⟨14,h0,n,2,0,0,false,false⟩] } 11:=by
        refine .begin ⟨hvot,⟨kh,by show W3.kn[_]?=_; rw [kn3]; exact hkh,rfl⟩,rfl,by show (2:Int)≤3; decide,rfl⟩ (by show (11:Int)≤W3.left; (first | lia | omega +splitDisjunctions)) (by show W3.ly++_=_; rw [e3]; rfl) hb3.led (fun i E hE=>?_) (fun E hE=>?_) (by have:=oth_len (e:=⟨c.hs kh,c.size,h0,3,true,[(2,n)]⟩) z rfl; (first | lia | omega +splitDisjunctions))
        · show E.term=2
          by_cases q:E.nid=n
          · exact hb3.lead i E hE q
          · rcases (hb3.oth i E hE q).2.2 with t | ⟨m,hm,_⟩
            · exact t
            · rw [e3] at hm; cases hm
        · obtain ⟨k,hk⟩:∃ k,W3.kn[(h0 - 1).toNat]?=some k:=⟨kh,by rw [kn3]; exact hkh⟩
          have nid:=(gd3.ok _ E k hE hk).2
          exact (hb3.oth _ E hE (by (first | lia | omega +splitDisjunctions))).1
      refine ws_told (N:=12) (φ:=11) (ev:=fun v=>hE c R n r u v) (J3 c ⟨c.hs kh,c.size,h0,3,true,[(2,n)]⟩ ⟨14,h0,n,2,0,0,false,false⟩) (fun l=>l - 1) rfl z gd5 w5 jb (by decide) (by decide) (by (first | lia | omega +splitDisjunctions)) (fun W' φ h=>?_) (fun l hl=>Nat.sub_lt hl Nat.one_pos) (fun _ _=>rfl) (fun _=>rfl) (fun _=>rfl) (fun u D l h hl=>px_new (ev:=fun v=>hE c R n r _ v) (fun _=>rfl) h hl) (fun W' g' φ m E gd' h hm hE=>j3_turn z rfl rfl rfl rfl gd' h hm hE) fun D6 W6 g6 n6 φ6 u6 x6 w6 gd6 j6 e6 hn6=>?_
      · rcases h with ⟨as,l,ly,led,all,s0,hφ⟩ | ⟨L,as,l,O,hφ⟩
        · exact ⟨l,by rw [ly]; exact Nat.le_trans (Nat.le_add_left 1 _) hφ⟩
        · exact ⟨l,Nat.le_trans (pot_len (e:=⟨c.hs kh,c.size,h0,3,true,[(2,n)]⟩) (L:=L)) hφ⟩
      · have fin:W6.led=[(3,h0),(2,n)]:=by
          rcases j6 with ⟨as,l,ly,led,all,s0,hφ⟩ | ⟨L,as,l,O,hφ⟩
          · rw [e6] at ly; cases ly
          · have:=openE_end (Asker.hv z as) O e6
            rw [O.led,if_pos this.1]
        obtain ⟨ls6,l61,l62⟩:=w6.ly
        have ls0':ls6=[]:=by have:=l62.length; rw [e6] at this; exact List.length_eq_zero_iff.mp this
        rw [ls0'] at l61
        have y7:Grow D6 (D6.new 0 (.list [])):=Ext.new w6.len 0 _
        have l71:=y7.keep _ _ _ id l61
        have b7:=At.fresh w6.len 0 (.list [])
        have a7:=y7.keep _ _ _ id (x6.keep _ _ _ (by decide) a5)
        have w7:=w6.grow y7
        have d7:=w7.led
        rw [fin] at d7
        refine WS.ret (WX.bop (WX.cmp (WX.p (PX.loc rfl) (WX.list (WXs.nil ⟨_,cmp_nil (is:=[]) l71.2 b7.2,true,rfl,fun _=>WX.bop1 (WX.cmp (WX.p (PX.loc rfl) ?_)),fun q=>nB q.symm⟩)))))
        show WX _ _ _ (D6.new 0 (.list [])).h _
        generalize D6.new 0 (.list [])=D7 at *
        have y8:Grow D7 (D7.new 0 (.dict [])):=Ext.new w7.len 0 _
        have s7:subV (.ref r) (.int 0) (D7.new 0 (.dict [])).h=some (.int h0):=(sub_ref (vs:=(h0::hs0).map V.int) (y8.keep _ _ _ id a7).2).trans rfl
        have y9:Grow D7 (D7.new 0 (.dict [(2,.int n),(3,.int h0)])):=Ext.new w7.len 0 _
        refine WX.disp (us:=[.int 2,.int n,.int 3,.int h0]) (ps:=[(2,.int n),(3,.int h0)]) (PXs.cons PX.const (PXs.cons (PX.loc rfl) (PXs.cons PX.const (PXs.cons (PX.sub (PX.loc rfl) PX.const s7) PXs.nil)))) rfl rfl ?_
        show OkE (cmpV .Eq (.ref R.aD) (.ref D7.h.length) (D7.new 0 (.dict [(2,.int n),(3,.int h0)])).h) _
        exact ⟨_,eq_dict (y9.keep _ _ _ id d7).2 (At.fresh w7.len 0 _).2 same2,kk (D7.new 0 (.dict [(2,.int n),(3,.int h0)])) W6 g6 n6 (w7.grow y9) gd6 (by (first | lia | omega +splitDisjunctions)) e6⟩
end
end Mine.L01
end
section
open PySem
namespace Mine.L01
variable {dp:Nat}
open L03 (isHv Sz conf_small HasMem)
open L03 (idsP pow_ok)
theorem ids_mem {d:Int} {n:Nat} (j:Int):j∈idsP d n↔(1≤j∧j≤n)∧d / 2 ^ (j - 1).toNat % 2=1:=by
  unfold idsP; rw [List.mem_filter,mem_upTo]; simp
theorem ids_ne {d:Int} {n:Nat} (hn:3≤n∧n≤5) (hd:1≤d∧d≤2 ^ n - 1):idsP d n≠[]:=by
  intro e
  have no:∀ j:Int,1≤j→j≤n→¬ d / 2 ^ (j - 1).toNat % 2=1:=fun j h1 h2 h3=>by
    have:=(ids_mem (d:=d) j).mpr ⟨⟨h1,h2⟩,h3⟩
    rw [e] at this; cases this
  have q1:=no 1 (by exact Int.natCast_nonneg _) (by lia)
  have q2:=no 2 (by exact Int.natCast_nonneg _) (by lia)
  have q3:=no 3 (by exact Int.natCast_nonneg _) (by lia)
  have p1:(2:Int) ^ (1 - 1:Int).toNat=1:=rfl
  have p2:(2:Int) ^ (2 - 1:Int).toNat=2:=rfl
  have p3:(2:Int) ^ (3 - 1:Int).toNat=4:=rfl
  have p4:(2:Int) ^ (4 - 1:Int).toNat=8:=rfl
  have p5:(2:Int) ^ (5 - 1:Int).toNat=16:=rfl
  rw [p1] at q1; rw [p2] at q2; rw [p3] at q3
  have r3:(2:Int) ^ 3=8:=rfl
  have r4:(2:Int) ^ 4=16:=rfl
  have r5:(2:Int) ^ 5=32:=rfl
  rcases (by lia:n=3∨n=4∨n=5) with h | h | h
  · subst h; rw [r3] at hd; lia
  · subst h; rw [r4] at hd
    have q4:=no 4 (by exact Int.natCast_nonneg _) (by decide)
    rw [p4] at q4
    lia
  · subst h; rw [r5] at hd
    have q4:=no 4 (by lia) (by decide)
    have q5:=no 5 (by exact Int.natCast_nonneg _) (by decide)
    rw [p4] at q4; rw [p5] at q5
    lia
theorem ids_si {d:Int} {n:Nat}:SI (idsP d n):=SI_filter (SI_upTo n) _
theorem hv_one {d:Int} {n:Nat} (hn:3≤n∧n≤5) (hd:1≤d∧d≤2 ^ n - 1):Sz n [idsP d n] :=
  ⟨by lia,⟨.inl ⟨_,rfl⟩,fun h hh=>by rw [List.mem_singleton.mp hh]; exact ids_si,fun h hh=>by rw [List.mem_singleton.mp hh]; exact ids_ne hn hd,fun h hh x hx=>by rw [List.mem_singleton.mp hh] at hx; exact ((ids_mem x).mp hx).1⟩⟩
theorem hv_two {d e:Int} {n:Nat} (hn:3≤n∧n≤5) (hd:1≤d∧d≤2 ^ n - 1) (he:1≤e∧e≤2 ^ n - 1):Sz n [idsP d n,idsP e n]:=by
  refine ⟨by lia,⟨.inr ⟨_,_,rfl⟩,fun h hh=>?_,fun h hh=>?_,fun h hh x hx=>?_⟩⟩<;>rcases List.mem_cons.mp hh with q | q
  · rw [q]; exact ids_si
  · rw [List.mem_singleton.mp q]; exact ids_si
  · rw [q]; exact ids_ne hn hd
  · rw [List.mem_singleton.mp q]; exact ids_ne hn he
  · rw [q] at hx; exact ((ids_mem x).mp hx).1
  · rw [List.mem_singleton.mp q] at hx; exact ((ids_mem x).mp hx).1
noncomputable def G00:Gh:=⟨[],[]⟩
theorem ids_pos {d:Int} {n:Nat} (hn:3≤n∧n≤5) (hd:1≤d∧d≤2 ^ n - 1):∃ v,v∈idsP d n:=List.exists_mem_of_ne_nil _ (ids_ne hn hd)
theorem voters_of {hs:List (List Int)} {h:List Int} {d v:Int} {n:Nat} (e:h=idsP d n) (hh:h∈hs) (hv:v∈h):v∈votersP hs n:=by
  rw [e] at hv
  exact (mem_voters v).mpr ⟨((ids_mem v).mp hv).1,h,hh,e▸hv⟩
noncomputable def turnedP (d:Int) (j:Nat):Int:=if d / 2 ^ j % 2=1 then d - 2 ^ j else d + 2 ^ j
noncomputable def nearP (d:Int) (j:Nat):Int:=if turnedP d j=0 then d else turnedP d j
noncomputable def hasErase (b a:List Int):Bool:=(List.range 5).any fun i=>decide (i < b.length) && decide (b.eraseIdx i=a)
noncomputable def nearOk (n d j:Nat):Bool:=decide (1≤nearP d j∧nearP d j≤2 ^ n - 1) && (decide (nearP d j=d) || (hasErase (idsP (nearP d j) n) (idsP d n) || hasErase (idsP d n) (idsP (nearP d j) n)))
theorem near_all:((List.range 3).all fun a=>(List.range 32).all fun d=>(List.range 5).all fun j=>!(decide (1≤d) && (decide (d < 2 ^ (a + 3)) && decide (j < a + 3))) || nearOk (a + 3) d j)=true:=by decide +kernel
theorem near_ok {n d j:Nat} (hn:3≤n∧n≤5) (hd:1≤d∧d < 2 ^ n) (hj:j < n):nearOk n d j=true:=by
  have h:=near_all
  rw [List.all_eq_true] at h
  have h:=h (n - 3) (List.mem_range.mpr (by (first | lia | omega +splitDisjunctions)))
  rw [List.all_eq_true] at h
  have p:2 ^ n≤32:=by rcases (by (first | lia | omega +splitDisjunctions):n=3∨n=4∨n=5) with h | h | h<;>subst h<;>decide
  have h:=h d (List.mem_range.mpr (by (first | lia | omega +splitDisjunctions)))
  rw [List.all_eq_true] at h
  have h:=h j (List.mem_range.mpr (by (first | lia | omega +splitDisjunctions)))
  rw [show n - 3 + 3=n by (first | lia | omega +splitDisjunctions),decide_eq_true hd.1,decide_eq_true hd.2,decide_eq_true hj] at h
  exact h
theorem countP_erase (q:Int→Bool):∀ (b:List Int) (i:Nat),b.countP q≤(b.eraseIdx i).countP q + 1
  | [],_=>Nat.zero_le _
  | x::b,0=>by
    rw [List.countP_cons]
    show _≤b.countP q + 1
    split<;>(first | lia | omega +splitDisjunctions)
  | x::b,i + 1=>by
    rw [List.eraseIdx_cons_succ,List.countP_cons,List.countP_cons]
    have:=countP_erase q b i
    (first | lia | omega +splitDisjunctions)
theorem erase_of {b a:List Int} (h:hasErase b a=true):b.length=a.length + 1∧(∀ q:Int→Bool,b.countP q≤a.countP q + 1)∧∀ x∈a,x∈b:=by
  unfold hasErase at h
  rw [List.any_eq_true] at h
  obtain ⟨i,_,h⟩:=h
  rw [Bool.and_eq_true,decide_eq_true_iff,decide_eq_true_iff] at h
  obtain ⟨hi,rfl⟩:=h
  refine ⟨?_,fun q=>countP_erase q b i,fun x hx=>List.mem_of_mem_eraseIdx hx⟩
  rw [List.length_eraseIdx,if_pos hi]; (first | lia | omega +splitDisjunctions)
structure Two (size:Nat) (ha hb:List (List Int)):Prop where
  va:Hv ha size
  vb:Hv hb size
  ab:Meets ha hb
  comm:∃ v,v∈votersP ha size∧v∈votersP hb size
section
variable {n:Nat} {d e:Int}
theorem two_same (hn:3≤n∧n≤5) (hd:1≤d∧d≤2 ^ n - 1):Two n [idsP d n] [idsP d n]:=by
  obtain ⟨v,hv⟩:=ids_pos hn hd
  have m:idsP d n∈[idsP d n]:=List.mem_singleton.mpr rfl
  exact ⟨(hv_one hn hd).hv,(hv_one hn hd).hv,.half m m,v,voters_of rfl m hv,voters_of rfl m hv⟩
theorem two_go (hn:3≤n∧n≤5) (hd:1≤d∧d≤2 ^ n - 1) (he:1≤e∧e≤2 ^ n - 1):Two n [idsP d n,idsP e n] [idsP e n]:=by
  obtain ⟨v,hv⟩:=ids_pos hn he
  have m:idsP e n∈[idsP e n]:=List.mem_singleton.mpr rfl
  have m2:idsP e n∈[idsP d n,idsP e n]:=List.mem_cons_of_mem _ m
  exact ⟨(hv_two hn hd he).hv,(hv_one hn he).hv,.half m2 m,v,voters_of rfl m2 hv,voters_of rfl m hv⟩
theorem two_come (hn:3≤n∧n≤5) (hd:1≤d∧d≤2 ^ n - 1) (he:1≤e∧e≤2 ^ n - 1):Two n [idsP d n,idsP e n] [idsP d n]:=by
  obtain ⟨v,hv⟩:=ids_pos hn hd
  have m:idsP d n∈[idsP d n]:=List.mem_singleton.mpr rfl
  have m2:idsP d n∈[idsP d n,idsP e n]:=List.mem_cons_self
  exact ⟨(hv_two hn hd he).hv,(hv_one hn hd).hv,.half m2 m,v,voters_of rfl m2 hv,voters_of rfl m hv⟩
theorem two_near {j:Nat} (hn:3≤n∧n≤5) (hd:1≤d∧d≤2 ^ n - 1) (hj:j < n):Two n [idsP d n] [idsP (nearP d j) n]:=by
  have ed:d=((d.toNat:Nat):Int):=by (first | lia | omega +splitDisjunctions)
  have p:((2 ^ n:Nat):Int)=2 ^ n:=by rcases (by (first | lia | omega +splitDisjunctions):n=3∨n=4∨n=5) with h | h | h<;>subst h<;>rfl
  have ok:=near_ok (d:=d.toNat) hn ⟨by (first | lia | omega +splitDisjunctions),by (first | lia | omega +splitDisjunctions)⟩ hj
  unfold nearOk at ok
  rw [← ed,Bool.and_eq_true,decide_eq_true_iff,Bool.or_eq_true,decide_eq_true_iff,Bool.or_eq_true] at ok
  obtain ⟨hr,ok⟩:=ok
  have m:idsP d n∈[idsP d n]:=List.mem_singleton.mpr rfl
  have m2:idsP (nearP d j) n∈[idsP (nearP d j) n]:=List.mem_singleton.mpr rfl
  have va:=(hv_one hn hd).hv
  have vb:=(hv_one hn hr).hv
  rcases ok with q | q | q
  · rw [q]; exact two_same hn hd
  · obtain ⟨l,cp,sub⟩:=erase_of q
    obtain ⟨v,hv⟩:=ids_pos hn hd
    exact ⟨va,vb,.near m m2 l cp,v,voters_of rfl m hv,voters_of rfl m2 (sub v hv)⟩
  · obtain ⟨l,cp,sub⟩:=erase_of q
    obtain ⟨v,hv⟩:=ids_pos hn hr
    exact ⟨va,vb,(Meets.near m2 m l cp).symm,v,voters_of rfl m (sub v hv),voters_of rfl m2 hv⟩
end
section
variable {vs:List Int} {ss:List S} {Q:Fl→En→Hp→Prop}
theorem len_lst {H:Hp} (h:vs.length≤63):lenV H (.lst (vs.map .int))=some (vs.length:Int):=by
  show cond (decide ((vs.map V.int).length≤lim)) (some ((vs.map V.int).length:Int)) none=_
  rw [decide_eq_true (by rw [List.length_map]; simp only [lim]; exact Nat.le_trans (by assumption) (by decide)),List.length_map]; rfl
theorem read_at {ρ:En} {H:Hp} {k i:Nat} (hl:vs.length≤63) (h0:ρ[0]?=some (some (.lst (vs.map .int)))) (hk:ρ[k]?=some (some (.int 0))) (hi:i < 60)
    (w:∀ a,WS (T1 dp) ss (setLoc ρ k (.int a)) H Q):WS (T1 dp) (.ite (.cmp .Gt (.len (.loc 0)) (.const (.int i))) [.asg k (.sub (.loc 0) (.const (.int i)))] []::ss) ρ H Q:=by
  refine WS.ite (PX.cmp (PX.len (PX.loc h0) (len_lst hl)) PX.const cmp_gt) (fun h=>?_) (fun _=>?_)
  · have h':i < vs.length:=by simp at h; omega
    refine WS.asg (WX.p (PX.sub (PX.loc h0) PX.const (w:=.int vs[i]) ?_) (w _))
    exact sub_lst (by lia) (small_of (by lia)) (by rw [Int.toNat_natCast,List.getElem?_map,List.getElem?_eq_getElem h']; rfl)
  · have e:setLoc ρ k (.int 0)=ρ:=by
      unfold setLoc
      exact List.ext_getElem? fun j=>by
        by_cases q:k=j
        · subst q; rw [List.getElem?_set_self (List.getElem?_eq_some_iff.mp hk).1,hk]
        · rw [List.getElem?_set_ne q]
    rw [← e]
    exact w 0
end
section
variable {G:Gh} {Q:V→Hp→Prop}
theorem wf_turned {d:Int} {j:Nat} (hj:j≤29) (k:Q (.int (turnedP d j)) G.h):WF (T1 (dp + 1)) 61 [.int d,.int (j:Int)] G.h Q:=by
  have hp:=L03.pow_small (j:=(j:Int)) (by (first | lia | omega +splitDisjunctions))
  have pw:binV .Pow (.int 2) (.int (j:Int)) G.h=some (.int (2 ^ j),G.h):=pow_ok (j:=(j:Int)) (by (first | lia | omega +splitDisjunctions))
  rw [Int.toNat_natCast] at hp
  refine WF.go rfl rfl ?_
  refine WS.ite (PX.cmp (PX.bin (PX.bin (PX.loc rfl) (PX.bin PX.const (PX.loc rfl) pw) (fdiv hp)) PX.const (fmod (by decide))) PX.const cmp_eq) (fun h=>?_) (fun h=>?_)
  · have h':d / 2 ^ j % 2=1:=of_decide_eq_true h
    refine WS.ret (WX.p (PX.bin (PX.loc rfl) (PX.bin PX.const (PX.loc rfl) pw) rfl) ?_)
    unfold turnedP at k
    rw [if_pos h'] at k; exact k
  · have h':¬ d / 2 ^ j % 2=1:=of_decide_eq_false h
    refine WS.ret (WX.p (PX.bin (PX.loc rfl) (PX.bin PX.const (PX.loc rfl) pw) rfl) ?_)
    unfold turnedP at k
    rw [if_neg h'] at k; exact k
theorem hv1_new {r:Nat} {l:List Int} (hG:G.t.length=G.h.length) (a:At G 0 r (zs l)):isHv (G.new 0 (.list [.ref r])) G.h.length [l] :=
  ⟨[r],At.fresh hG 0 _,.cons ((Ext.new (S:=fun _=>False) hG 0 _).keep _ _ _ id a) .nil⟩
theorem hv2_new {r s:Nat} {l m:List Int} (hG:G.t.length=G.h.length) (a:At G 0 r (zs l)) (b:At G 0 s (zs m)):isHv (G.new 0 (.list [.ref r,.ref s])) G.h.length [l,m] :=
  ⟨[r,s],At.fresh hG 0 _,.cons ((Ext.new (S:=fun _=>False) hG 0 _).keep _ _ _ id a) (.cons ((Ext.new (S:=fun _=>False) hG 0 _).keep _ _ _ id b) .nil)⟩
theorem cfs_new {c:C1} {r s:Nat} (hG:G.t.length=G.h.length) (a:isHv G r c.ha) (b:isHv G s c.hb):Cfs G.h.length (G.new 0 (.list [.ref r,.ref s])) c :=
  ⟨r,s,At.fresh hG 0 _,a.ext (Ext.new (S:=fun _=>False) hG 0 _) id,b.ext (Ext.new (S:=fun _=>False) hG 0 _) id⟩
end
noncomputable abbrev lE (vs:List Int) (a b d bits kind:Int) (n:Nat) (top drawn:Int) (x9 x10 x11 x12 x13 x14 x15 x16 x17 x18 x19 x20 x21 x22 x23 x24:Option V):En :=
  [some (.lst (vs.map .int)),some (.int a),some (.int b),some (.int d),some (.int bits),some (.int kind),some (.int n),some (.int top),some (.int drawn),x9,x10,x11,x12,x13,x14,x15,x16,x17,x18,x19,x20,x21,x22,x23,x24]
theorem law_confs {vs:List Int} (hl:vs.length≤63) {Q:Fl→En→Hp→Prop}
    (k:∀ (a b d kind top drawn:Int) (c:C1) (D:Gh) (aC:Nat) (x9 x10 x12:Option V),c.Good→(∃ v,v∈votersP c.ha c.size∧v∈votersP c.hb c.size)→D.t.length=D.h.length→Cfs aC D c →
      WS (T1 (dp + 1)) (List.drop 14 c_law) (lE vs a b d c.bits kind c.size top drawn x9 x10 (some (.ref aC)) x12 none none none none none none none none none none none none) D.h Q) :
    WS (T1 (dp + 1)) c_law (some (.lst (vs.map .int))::List.replicate 24 none) [] Q:=by
  refine WS.asg (WX.p PX.const (WS.asg (WX.p PX.const (WS.asg (WX.p PX.const ?_)))))
  refine read_at (i:=0) hl rfl rfl (by decide) fun a=>read_at (i:=1) hl rfl rfl (by decide) fun b=>read_at (i:=2) hl rfl rfl (by decide) fun d=>?_
  refine WS.asg (WX.p (PX.bin (PX.loc rfl) PX.const (fmod (by decide))) ?_)
  refine WS.asg (WX.p (PX.bin (PX.bin (PX.loc rfl) PX.const (fdiv (by decide))) PX.const (fmod (by decide))) ?_)
  refine WS.asg (WX.p (PX.bin PX.const (PX.bin (PX.bin (PX.loc rfl) PX.const (fdiv (by decide))) PX.const (fmod (by decide))) rfl) ?_)
  obtain ⟨n,en,hn⟩:∃ n:Nat,3 + a / 16 % 3=(n:Int)∧3≤n∧n≤5:=⟨(3 + a / 16 % 3).toNat,by (first | lia | omega +splitDisjunctions),by (first | lia | omega +splitDisjunctions),by (first | lia | omega +splitDisjunctions)⟩
  rw [en]
  refine WS.asg (WX.p (PX.bin (PX.bin PX.const (PX.loc rfl) (pow_ok (by (first | lia | omega +splitDisjunctions)))) PX.const rfl) ?_)
  have et:(2:Int) ^ (n:Int).toNat - 1=2 ^ n - 1:=by rw [Int.toNat_natCast]
  rw [et]
  have tp:7≤(2:Int) ^ n - 1∧(2:Int) ^ n - 1≤31:=by
    rcases (by (first | lia | omega +splitDisjunctions):n=3∨n=4∨n=5) with h | h | h<;>subst h<;>decide
  have dr:∀ b:Int,1≤(2:Int) ^ n - 1 - b % (2 ^ n - 1)∧(2:Int) ^ n - 1 - b % (2 ^ n - 1)≤2 ^ n - 1:=by
    intro b
    have h1:=Int.emod_nonneg b (show (2:Int) ^ n - 1≠0 by (first | lia | omega +splitDisjunctions))
    have h2:=Int.emod_lt_of_pos b (show (0:Int) < 2 ^ n - 1 by (first | lia | omega +splitDisjunctions))
    (first | lia | omega +splitDisjunctions)
  have hb:0≤a % 4∧a % 4 < 4:=by (first | lia | omega +splitDisjunctions)
  have gone:=dr (d % 32)
  have come:=dr b
  generalize htop:(2:Int) ^ n - 1=top at *
  generalize hk:a / 4 % 4=kind at *
  generalize hbits:a % 4=bits at *
  refine WS.asg (WX.p (PX.bin (PX.loc rfl) (PX.bin (PX.loc rfl) (PX.loc rfl) (fmod (by (first | lia | omega +splitDisjunctions)))) (w:=.int (top - b % top)) rfl) ?_)
  generalize hdr:top - b % top=drawn at *
  have e0:∀ x y,WS (T1 (dp + 1)) (List.drop 11 c_law) (lE vs a b d bits kind n top drawn none none none none none none none none none none none none none none none none) x y→WS (T1 (dp + 1)) (List.drop 11 c_law) (setLoc (setLoc (setLoc (setLoc (setLoc (setLoc (setLoc (setLoc (setLoc (setLoc (setLoc (some (.lst (vs.map .int))::List.replicate 24 none) 1 (.int 0)) 2 (.int 0)) 3 (.int 0)) 1 (.int a)) 2 (.int b)) 3 (.int d)) 4 (.int bits)) 5 (.int kind)) 6 (.int n)) 7 (.int top)) 8 (.int drawn)) x y:=fun _ _ h=>h
  refine e0 _ _ ?_
  refine WS.asg (WX.call (WXs.p (PXs.cons (PX.loc rfl) (PXs.cons (PX.loc rfl) PXs.nil)) (wf_ids (G:=G00) rfl (by (first | lia | omega +splitDisjunctions)) fun D1 r1 x1 a1=>?_)))
  refine WS.asg (WX.call (WXs.p (PXs.cons (PX.bin (PX.loc rfl) (PX.bin (PX.bin (PX.loc rfl) PX.const (fmod (by decide))) (PX.loc rfl) (fmod (by (first | lia | omega +splitDisjunctions)))) (w:=.int (top - d % 32 % top)) rfl) (PXs.cons (PX.loc rfl) PXs.nil)) (wf_ids (G:=D1) x1.len (by (first | lia | omega +splitDisjunctions)) fun D2 r2 x2 a2=>?_)))
  generalize hgo:top - d % 32 % top=go at *
  have a1:=x2.keep _ _ _ id a1
  rw [← htop] at come gone
  have fin:∀ (D:Gh) (ha hb':List (List Int)) (r s:Nat) (x12:Option V),D.t.length=D.h.length→isHv D r ha→isHv D s hb'→Two n ha hb' →
      WS (T1 (dp + 1)) (List.drop 14 c_law) (lE vs a b d bits kind n top drawn (some (.ref r1)) (some (.ref r2)) (some (.ref D.h.length)) x12 none none none none none none none none none none none none) (D.h++[.list [.ref r,.ref s]]) Q :=
    fun D ha hb' r s x12 hD h1 h2 tw=>k a b d kind top drawn ⟨n,bits,ha,hb'⟩ (D.new 0 (.list [.ref r,.ref s])) D.h.length _ _ x12 ⟨hn,hb,tw.va,tw.vb,tw.ab⟩ tw.comm (Gh.new_len hD) (cfs_new hD h1 h2)
  have y1:∀ {D:Gh} {o:O},D.t.length=D.h.length→Grow D (D.new 0 o):=fun h=>Ext.new h 0 _
  refine WS.ite (by tb_rel) (fun _=>?_) (fun _=>?_)
  · have z3:=y1 (D:=D2) (o:=.list [.ref r1]) x2.len
    have z4:=y1 (D:=D2.new 0 (.list [.ref r1])) (o:=.list [.ref r1]) z3.len
    refine WS.asg (WX.list (WXs.cons (WX.list (WXs.p (PXs.cons (PX.loc rfl) PXs.nil) (WXs.cons (WX.list (WXs.p (PXs.cons (PX.loc rfl) PXs.nil) (WXs.nil ?_))))))))
    exact fin ((D2.new 0 (.list [.ref r1])).new 0 (.list [.ref r1])) _ _ _ _ _ z4.len ((hv1_new x2.len a1).ext z4 id) (hv1_new z3.len (z3.keep _ _ _ id a1)) (two_same hn come)
  refine WS.ite (by tb_rel) (fun _=>?_) (fun _=>?_)
  · have z3:=y1 (D:=D2) (o:=.list [.ref r1,.ref r2]) x2.len
    have z4:=y1 (D:=D2.new 0 (.list [.ref r1,.ref r2])) (o:=.list [.ref r2]) z3.len
    refine WS.asg (WX.list (WXs.cons (WX.list (WXs.p (PXs.cons (PX.loc rfl) (PXs.cons (PX.loc rfl) PXs.nil)) (WXs.cons (WX.list (WXs.p (PXs.cons (PX.loc rfl) PXs.nil) (WXs.nil ?_))))))))
    exact fin ((D2.new 0 (.list [.ref r1,.ref r2])).new 0 (.list [.ref r2])) _ _ _ _ _ z4.len ((hv2_new x2.len a1 a2).ext z4 id) (hv1_new z3.len (z3.keep _ _ _ id a2)) (two_go hn come gone)
  refine WS.ite (by tb_rel) (fun _=>?_) (fun _=>?_)
  · have z3:=y1 (D:=D2) (o:=.list [.ref r1,.ref r2]) x2.len
    have z4:=y1 (D:=D2.new 0 (.list [.ref r1,.ref r2])) (o:=.list [.ref r1]) z3.len
    refine WS.asg (WX.list (WXs.cons (WX.list (WXs.p (PXs.cons (PX.loc rfl) (PXs.cons (PX.loc rfl) PXs.nil)) (WXs.cons (WX.list (WXs.p (PXs.cons (PX.loc rfl) PXs.nil) (WXs.nil ?_))))))))
    exact fin ((D2.new 0 (.list [.ref r1,.ref r2])).new 0 (.list [.ref r1])) _ _ _ _ _ z4.len ((hv2_new x2.len a1 a2).ext z4 id) (hv1_new z3.len (z3.keep _ _ _ id a1)) (two_come hn come gone)
  obtain ⟨j,ej,hj⟩:∃ j:Nat,d % (n:Int)=j∧j < n:=by
    have h1:=Int.emod_nonneg d (show (n:Int)≠0 by (first | lia | omega +splitDisjunctions))
    have h2:=Int.emod_lt_of_pos d (show (0:Int) < n by (first | lia | omega +splitDisjunctions))
    exact ⟨(d % n).toNat,by (first | lia | omega +splitDisjunctions),by (first | lia | omega +splitDisjunctions)⟩
  refine WS.asg (WX.call (WXs.p (PXs.cons (PX.loc rfl) (PXs.cons (PX.bin (PX.loc rfl) (PX.loc rfl) (fmod (by (first | lia | omega +splitDisjunctions)))) PXs.nil)) ?_))
  rw [ej]
  refine wf_turned (by (first | lia | omega +splitDisjunctions)) ?_
  have rest:WS (T1 (dp + 1)) (.asg 11 (.list [(.list [(.loc 9)]),(.list [(.call 60 [(.loc 12),(.loc 6)])])])::List.drop 14 c_law) (lE vs a b d bits kind n top drawn (some (.ref r1)) (some (.ref r2)) none (some (.int (nearP drawn j))) none none none none none none none none none none none none) D2.h Q:=by
    have z3:=y1 (D:=D2) (o:=.list [.ref r1]) x2.len
    refine WS.asg (WX.list (WXs.cons (WX.list (WXs.p (PXs.cons (PX.loc rfl) PXs.nil) (WXs.cons (WX.list (WXs.cons (WX.call (WXs.p (PXs.cons (PX.loc rfl) (PXs.cons (PX.loc rfl) PXs.nil)) (wf_ids (G:=D2.new 0 (.list [.ref r1])) z3.len (by (first | lia | omega +splitDisjunctions)) fun D4 r4 x4 a4=>WXs.nil (WXs.nil ?_)))))))))))
    have z5:=y1 (D:=D4) (o:=.list [.ref r4]) x4.len
    exact fin (D4.new 0 (.list [.ref r4])) _ _ _ _ _ z5.len (((hv1_new x2.len a1).ext x4 id).ext z5 id) (hv1_new x4.len a4) (two_near hn come hj)
  refine WS.ite (by tb_rel) (fun h=>?_) (fun h=>?_)
  · have h':turnedP drawn j=0:=of_decide_eq_true h
    refine WS.asg (WX.p (PX.loc rfl) ?_)
    have e:nearP drawn j=drawn:=by unfold nearP; rw [if_pos h']
    rw [e] at rest; exact rest
  · have h':¬ turnedP drawn j=0:=of_decide_eq_false h
    have e:nearP drawn j=turnedP drawn j:=by unfold nearP; rw [if_neg h']
    rw [e] at rest; exact rest
end Mine.L01
end
section
open PySem
namespace Mine.L01
variable {dp:Nat}
open L03 (isHv Sz conf_small HasMem)
theorem retag {G D:Gh} {τ:Nat} {o:O} (x:Grow G D) (a:At D 0 G.h.length o):∃ D':Gh,D'.h=D.h∧Grow G D'∧At D' τ G.h.length o:=by
  have hG:=x.lenB
  have hl:G.h.length < D.t.length:=(List.getElem?_eq_some_iff.mp a.1).1
  obtain ⟨u,hu⟩:=x.pre
  refine ⟨⟨D.t.set G.h.length τ,D.h⟩,rfl,⟨hG,by show (D.t.set _ _).length=_; rw [List.length_set]; exact x.len,⟨u.set 0 τ,?_⟩,fun r σ p _ b=>⟨?_,(x.keep r σ p id b).2⟩⟩,⟨List.getElem?_set_self hl,a.2⟩⟩
  · show D.t.set G.h.length τ=_
    rw [hu,List.set_append_right _ _ (by (first | lia | omega +splitDisjunctions)),show G.h.length - G.t.length=0 by (first | lia | omega +splitDisjunctions)]
  · show (D.t.set G.h.length τ)[r]?=_
    have hr:=(List.getElem?_eq_some_iff.mp b.1).1
    rw [List.getElem?_set_ne (by (first | lia | omega +splitDisjunctions))]
    exact (x.keep r σ p id b).1
noncomputable def mem0 (c:C1) (kn:List Int):List El:=kn.mapIdx fun j k=>freshE c k ((j:Int) + 1) 1 0
noncomputable def W0 (c:C1) (kn:List Int):W1:=⟨mem0 c kn,kn,[],40,[]⟩
theorem mem0_at {c:C1} {kn:List Int} {i:Nat} {E:El} (h:(mem0 c kn)[i]?=some E):∃ k,kn[i]?=some k∧E=freshE c k ((i:Int) + 1) 1 0:=by
  unfold mem0 at h
  rw [List.getElem?_mapIdx] at h
  obtain ⟨k,hk,e⟩:=Option.map_eq_some_iff.mp h
  exact ⟨k,hk,e.symm⟩
theorem good0 {c:C1} {kn:List Int} (z:c.Good) (hk:kn.length=c.size) (k01:∀ k∈kn,k=0∨k=1):Good1 c (fun _ _=>0) (W0 c kn):=by
  refine ⟨by show (mem0 c kn).length=_; unfold mem0; rw [List.length_mapIdx]; exact hk,hk,k01,fun i E k hE hki=>?_,fun m hm=>(List.not_mem_nil hm).elim,fun i E hE=>?_,fun m hm=>(List.not_mem_nil hm).elim,fun t n h=>nS h⟩
  · obtain ⟨k',hk',rfl⟩:=mem0_at hE
    have hki:kn[i]?=some k:=hki
    cases hk'.symm.trans hki
    have:=(List.getElem?_eq_some_iff.mp hk').1
    exact ⟨fresh_ok z (by (first | lia | omega +splitDisjunctions)) (by decide),rfl⟩
  · obtain ⟨k',hk',rfl⟩:=mem0_at hE
    exact ⟨⟨rfl,fun _ _=>rfl⟩,fresh_cand,fun h=>by cases h⟩
inductive MI (c:C1) (kn:List Int) (aC aK aM aS i:Nat) (ev:Option V→En) (ρ:En) (H:Hp):Prop
  | mk (D:Gh) (es:List Nat):H=D.h→D.t.length=D.h.length→Cfs aC D c→At D 107 aK (.list (kn.map .int))→At D 101 aM (.list (es.map .ref))→es.length=i →
      (∀ (j:Nat) (k:Int),j < i→kn[j]?=some k→HasMem D es j (freshE c k ((j:Int) + 1) 1 0))→At D 102 aS (.list (List.replicate i (.tup [.int 1,.int 0])))→∀ u:Option V,ρ=ev u→MI c kn aC aK aM aS i ev ρ H
section
variable {vs:List Int} {a b d kind top drawn:Int} {c:C1} {x9 x10 x12 x13:Option V} {Q:Fl→En→Hp→Prop} {G:Gh} {aC:Nat}
theorem WS.env {T:TL} {ss:List S} {ρ ρ':En} {H:Hp} {Q:Fl→En→Hp→Prop} (e:ρ=ρ') (w:WS T ss ρ' H Q):WS T ss ρ H Q:=by rw [e]; exact w
theorem law_known (z:c.Good) (hG:G.t.length=G.h.length) (cf:Cfs aC G c)
    (k:∀ (D:Gh) (aK:Nat) (kn:List Int),D.t.length=D.h.length→Cfs aC D c→At D 107 aK (.list (kn.map .int))→kn.length=c.size→(∀ k∈kn,k=0∨k=1) →
      WS (T1 dp) (List.drop 15 c_law) (lE vs a b d c.bits kind c.size top drawn x9 x10 (some (.ref aC)) x12 none (some (.ref aK)) none none none none none none none none none none) D.h Q) :
    WS (T1 dp) (List.drop 14 c_law) (lE vs a b d c.bits kind c.size top drawn x9 x10 (some (.ref aC)) x12 none none none none none none none none none none none none) G.h Q:=by
  have zs:=z.size
  have rl:(rangeInts 0 (c.size:Int)).length=c.size:=by
    unfold rangeInts
    rw [List.length_map,List.length_range]; (first | lia | omega +splitDisjunctions)
  refine WS.asg (WX.compRange1 (n:=(c.size:Int)) (PX.loc rfl) (small_of (by (first | lia | omega +splitDisjunctions))) (CompG.each hG (rangeInts 0 (c.size:Int)) (((List.range c.size).map fun j=>d / 32 / 2 ^ j % 2).map .int) (by rw [List.length_map,List.length_map,List.length_range,rl]) (by rw [rl]; simp only [lim]; (first | lia | omega +splitDisjunctions)) (fun _ _=>rfl) ?_ ?_))
  · intro i v u hv hu D y
    obtain ⟨hi,e⟩:=range_at hv
    have hi':i < c.size:=by (first | lia | omega +splitDisjunctions)
    rw [List.getElem?_map,List.getElem?_map,List.getElem?_range hi'] at hu
    have hu':V.int (d / 32 / 2 ^ i % 2)=u:=by simpa using hu
    rw [← hu',e,show (0:Int) + i=(i:Int) by (first | lia | omega +splitDisjunctions)]
    have hp:=L03.pow_small (j:=(i:Int)) (by (first | lia | omega +splitDisjunctions))
    have pw:binV .Pow (.int 2) (.int (i:Int)) D.h=some (.int (2 ^ i),D.h):=L03.pow_ok (j:=(i:Int)) (by (first | lia | omega +splitDisjunctions))
    rw [Int.toNat_natCast] at hp
    exact WX.px y.len (PX.bin (PX.bin (PX.bin (PX.loc rfl) PX.const (fdiv (by decide))) (PX.bin PX.const (PX.loc rfl) pw) (fdiv hp)) PX.const (fmod (by decide)))
  · intro D y a1
    obtain ⟨D',e,y',a'⟩:=retag (τ:=107) y a1
    rw [← e]
    refine k D' G.h.length _ y'.len (cf.ext y' id) a' (by rw [List.length_map,List.length_range]) fun x hx=>?_
    obtain ⟨j,_,e⟩:=List.mem_map.mp hx
    (first | lia | omega +splitDisjunctions)
theorem law_members (z:c.Good) {aK:Nat} {kn:List Int} (hG:G.t.length=G.h.length) (cf:Cfs aC G c) (b7:At G 107 aK (.list (kn.map .int))) (hk:kn.length=c.size) (k01:∀ k∈kn,k=0∨k=1)
    (k:∀ (D:Gh) (aM aS:Nat) (u:Option V),D.t.length=D.h.length→Cfs aC D c→At D 107 aK (.list (kn.map .int))→Mems aM D (mem0 c kn)→At D 102 aS (.list ((mem0 c kn).map savV)) →
      WS (T1 (dp + 6)) (List.drop 18 c_law) (lE vs a b d c.bits kind c.size top drawn x9 x10 (some (.ref aC)) x12 u (some (.ref aK)) (some (.ref aM)) (some (.ref aS)) none none none none none none none none) D.h Q) :
    WS (T1 (dp + 6)) (List.drop 15 c_law) (lE vs a b d c.bits kind c.size top drawn x9 x10 (some (.ref aC)) x12 x13 (some (.ref aK)) none none none none none none none none none none) G.h Q:=by
  have zs:=z.size
  refine WS.asg (WX.list (WXs.nil (WS.asg (WX.list (WXs.nil ?_)))))
  have y1:Grow G (G.new 101 (.list [])):=Ext.new hG 101 _
  have a1:=At.fresh hG 101 (.list [])
  have y2:Grow (G.new 101 (.list [])) ((G.new 101 (.list [])).new 102 (.list [])):=Ext.new y1.len 102 _
  have a2:=At.fresh y1.len 102 (.list [])
  have yy:=y1.trans y2
  have cf2:=cf.ext yy id
  have b72:=yy.keep _ _ _ id b7
  have a12:=y2.keep _ _ _ id a1
  have l2:=y2.len
  refine WS.env (ρ':=lE vs a b d c.bits kind c.size top drawn x9 x10 (some (.ref aC)) x12 x13 (some (.ref aK)) (some (.ref G.h.length)) (some (.ref (G.new 101 (.list [])).h.length)) none none none none none none none none) rfl ?_
  show WS _ _ _ ((G.new 101 (.list [])).new 102 (.list [])).h _
  generalize (G.new 101 (.list [])).h.length=aS at *
  generalize G.h.length=aM at *
  generalize (G.new 101 (.list [])).new 102 (.list [])=G2 at *
  refine WS.forRange1 (WX.p (PX.loc rfl) ⟨(c.size:Int),rfl,small_of (by (first | lia | omega +splitDisjunctions)),ForG.range (fun i=>MI c kn aC aK aM aS i fun u=>lE vs a b d c.bits kind c.size top drawn x9 x10 (some (.ref aC)) x12 u (some (.ref aK)) (some (.ref aM)) (some (.ref aS)) none none none none none none none none) (by simp only [lim]; (first | lia | omega +splitDisjunctions)) ⟨G2,[],rfl,l2,cf2,b72,a12,rfl,fun j _ h=>absurd h (Nat.not_lt_zero j),a2,x13,rfl⟩ ?_ ?_⟩)
  · rintro i ρ H hi ⟨D,es,rfl,hD,cfD,bD,mD,el,mm,sD,u,rfl⟩
    have hi':i < c.size:=by (first | lia | omega +splitDisjunctions)
    have e0:(0:Int) + i=(i:Int):=by (first | lia | omega +splitDisjunctions)
    rw [e0]
    obtain ⟨kk,hkk⟩:∃ kk,kn[i]?=some kk:=⟨_,List.getElem?_eq_getElem (by rw [hk]; exact hi')⟩
    refine WS.expr (WX.append (PX.loc rfl) sD.2 (WX.p (PX.tup (PXs.cons PX.const (PXs.cons PX.const PXs.nil))) ⟨_,sD.2,by rw [List.length_replicate]; simp only [lim]; (first | lia | omega +splitDisjunctions),?_⟩))
    have y3:Ext (·=102) D (D.put aS (.list (List.replicate i (V.tup [.int 1,.int 0])++[.tup [.int 1,.int 0]]))):=.put hD sD rfl
    have s3:At (D.put aS (.list (List.replicate i (V.tup [.int 1,.int 0])++[.tup [.int 1,.int 0]]))) 102 aS (.list (List.replicate (i + 1) (.tup [.int 1,.int 0]))):=by
      rw [List.replicate_succ']; exact sD.put
    show WS _ _ _ (D.put aS (.list (List.replicate i (V.tup [.int 1,.int 0])++[.tup [.int 1,.int 0]]))).h _
    generalize D.put aS (.list (List.replicate i (V.tup [.int 1,.int 0])++[.tup [.int 1,.int 0]]))=D3 at *
    have cf3:=cfD.ext y3 (by decide)
    have b3:=y3.keep _ _ _ (by decide) bD
    have m3:=y3.keep _ _ _ (by decide) mD
    obtain ⟨rk,sc,hh⟩:∃ r,subV (.ref aC) (.int kk) D3.h=some (.ref r)∧isHv D3 r (c.hs kk):=Cfs.at (R:=⟨0,0,0,0,0,0,aC,0⟩) cf3 (k01 kk (List.mem_of_getElem? hkk))
    have sk:subV (.ref aK) (.int (i:Int)) D3.h=some (.int kk):=sub_nat b3.2 (by (first | lia | omega +splitDisjunctions)) (small_of (by (first | lia | omega +splitDisjunctions))) (by rw [Int.toNat_natCast,List.getElem?_map,hkk]; rfl)
    refine WS.expr (WX.append (PX.loc rfl) m3.2 (WX.call (WXs.p (PXs.cons (PX.bin (PX.loc rfl) PX.const (w:=.int ((i:Int) + 1)) rfl) (PXs.cons (PX.loc rfl) (PXs.cons (PX.sub (PX.loc rfl) (PX.sub (PX.loc rfl) (PX.loc rfl) sk) sc) (PXs.cons (PX.loc rfl) (PXs.cons (PX.tup (PXs.cons PX.const (PXs.cons PX.const PXs.nil))) PXs.nil))))) ?_)))
    refine wf_anew (bits:=c.bits) (t:=1) (v:=0) y3.len (C1.Good.sz z kk) hh (by (first | lia | omega +splitDisjunctions)) fun e A G4 s4=>?_
    have j4:((i:Int) + 1).toNat=i + 1:=by (first | lia | omega +splitDisjunctions)
    rw [j4] at s4
    have m4:=s4.ext.keep _ _ _ (by (first | lia | omega +splitDisjunctions)) m3
    refine ⟨_,m4.2,by rw [List.length_map,el]; simp only [lim]; (first | lia | omega +splitDisjunctions),?_⟩
    have y5:Ext (·=101) G4 (G4.put aM (.list (es.map V.ref++[.ref e]))):=.put s4.ext.len m4 rfl
    have X:Ext (fun τ=>τ=i + 1∨τ=101) D3 (G4.put aM (.list (es.map V.ref++[.ref e]))):=(s4.ext.weaken fun _ f=>.inl f).trans (y5.weaken fun _ f=>.inr f)
    have m5:At (G4.put aM (.list (es.map V.ref++[.ref e]))) 101 aM (.list ((es++[e]).map .ref)):=by rw [List.map_append]; exact m4.put
    have me:=s4.mem.ext y5 (by decide) (by (first | lia | omega +splitDisjunctions))
    refine WS.nil ⟨G4.put aM (.list (es.map V.ref++[.ref e])),es++[e],rfl,X.len,cf3.ext X (by (first | lia | omega +splitDisjunctions)),X.keep _ _ _ (by (first | lia | omega +splitDisjunctions)) b3,m5,by rw [List.length_append,el]; rfl,fun j k' hj hk'=>?_,X.keep _ _ _ (by (first | lia | omega +splitDisjunctions)) s3,_,rfl⟩
    by_cases q:j=i
    · subst q
      cases hk'.symm.trans hkk
      refine ⟨e,A,by rw [List.getElem?_append_right (by (first | lia | omega +splitDisjunctions)),el,Nat.sub_self]; rfl,me⟩
    · obtain ⟨e1,A1,p1,p2⟩:=mm j k' (by (first | lia | omega +splitDisjunctions)) hk'
      exact ⟨e1,A1,by rw [List.getElem?_append_left (by rw [el]; (first | lia | omega +splitDisjunctions))]; exact p1,(p2.ext y3 (by decide) (by (first | lia | omega +splitDisjunctions))).ext X (by (first | lia | omega +splitDisjunctions)) (by (first | lia | omega +splitDisjunctions))⟩
  · rintro ρ H ⟨D,es,rfl,hD,cfD,bD,mD,el,mm,sD,u,rfl⟩
    have en:((c.size:Int) - 0).toNat=c.size:=by (first | lia | omega +splitDisjunctions)
    rw [en] at el mm sD
    have ml:(mem0 c kn).length=c.size:=by unfold mem0; rw [List.length_mapIdx]; exact hk
    refine k D aM aS u hD cfD bD ⟨es,mD,by rw [el,ml],fun i E hE=>?_⟩ ?_
    · obtain ⟨k',hk',rfl⟩:=mem0_at hE
      exact mm i k' (by rw [← hk]; exact (List.getElem?_eq_some_iff.mp hk').1) hk'
    · have:(mem0 c kn).map savV=List.replicate c.size (.tup [.int 1,.int 0]):=by
        rw [List.eq_replicate_iff]
        refine ⟨by rw [List.length_map,ml],fun v hv=>?_⟩
        obtain ⟨E,hE,rfl⟩:=List.mem_map.mp hv
        obtain ⟨i,hi⟩:=List.getElem?_of_mem hE
        obtain ⟨k',_,rfl⟩:=mem0_at hi
        rfl
      rw [this]; exact sD
noncomputable def SelfV (c:C1) (kn:List Int) (x:Int):Prop:=∃ k,kn[(x - 1).toNat]?=some k∧x∈votersP (c.hs k) c.size
inductive FI (c:C1) (kn:List Int) (G:Gh) (k:Nat) (ev:Int→En) (ρ:En) (H:Hp):Prop
  | mk (D:Gh) (f:Int):H=D.h→Grow G D→ρ=ev f→1≤f∧f≤c.size→(k:Int)=c.size - f→(∀ x,1≤x→x < f→¬ SelfV c kn x)→FI c kn G k ev ρ H
theorem law_first (z:c.Good) {aK aM aS:Nat} {kn:List Int} (hG:G.t.length=G.h.length) (cf:Cfs aC G c) (b7:At G 107 aK (.list (kn.map .int))) (hk:kn.length=c.size) (k01:∀ k∈kn,k=0∨k=1) (cm:∃ v,v∈votersP c.ha c.size∧v∈votersP c.hb c.size)
    (k:∀ (D:Gh) (f:Int),Grow G D→1≤f∧f≤c.size→SelfV c kn f →
      WS (T1 dp) (List.drop 20 c_law) (lE vs a b d c.bits kind c.size top drawn x9 x10 (some (.ref aC)) x12 x13 (some (.ref aK)) (some (.ref aM)) (some (.ref aS)) (some (.int f)) none none none none none none none) D.h Q) :
    WS (T1 dp) (List.drop 18 c_law) (lE vs a b d c.bits kind c.size top drawn x9 x10 (some (.ref aC)) x12 x13 (some (.ref aK)) (some (.ref aM)) (some (.ref aS)) none none none none none none none none) G.h Q:=by
  have zs:=z.size
  have all:(∀ x,1≤x→x < (c.size:Int)→¬ SelfV c kn x)→SelfV c kn c.size:=by
    intro no
    obtain ⟨v,va,vb⟩:=cm
    have hv:=((mem_voters v).mp va).1
    have sv:SelfV c kn v:=by
      obtain ⟨kk,hkk⟩:∃ kk,kn[(v - 1).toNat]?=some kk:=⟨_,List.getElem?_eq_getElem (by rw [hk]; (first | lia | omega +splitDisjunctions))⟩
      refine ⟨kk,hkk,?_⟩
      unfold C1.hs
      split
      · exact va
      · exact vb
    by_cases q:v=c.size
    · exact q▸sv
    · exact absurd sv (no v hv.1 (by (first | lia | omega +splitDisjunctions)))
  refine WS.asg (WX.p PX.const ?_)
  refine WS.while (fun m=>FI c kn G m fun f=>lE vs a b d c.bits kind c.size top drawn x9 x10 (some (.ref aC)) x12 x13 (some (.ref aK)) (some (.ref aM)) (some (.ref aS)) (some (.int f)) none none none none none none none) (k:=c.size - 1) (by simp only [lim]; (first | lia | omega +splitDisjunctions)) ⟨G,1,rfl,Ext.refl hG,rfl,by (first | lia | omega +splitDisjunctions),by (first | lia | omega +splitDisjunctions),fun x h1 h2=>by (first | lia | omega +splitDisjunctions)⟩ ?_
  rintro m ρ H ⟨D,f,rfl,y,rfl,hf,hm,no⟩
  refine WX.bop (WX.p (PX.cmp (PX.loc rfl) (PX.loc rfl) cmp_lt) ⟨_,rfl,fun hlt=>?_,fun hge=>⟨false,by rw [hge]; rfl,fun _=>?_,fun q=>nB q⟩⟩)
  · have hlt:=of_decide_eq_true hlt
    have cfD:=cf.ext y id
    have bD:=y.keep _ _ _ id b7
    obtain ⟨kk,hkk⟩:∃ kk,kn[(f - 1).toNat]?=some kk:=⟨_,List.getElem?_eq_getElem (by rw [hk]; (first | lia | omega +splitDisjunctions))⟩
    have kk01:=k01 kk (List.mem_of_getElem? hkk)
    obtain ⟨rk,sc,hh⟩:∃ r,subV (.ref aC) (.int kk) D.h=some (.ref r)∧isHv D r (c.hs kk):=Cfs.at (R:=⟨0,0,0,0,0,0,aC,0⟩) cfD kk01
    have ps:∀ D',Grow D D'→PX (lE vs a b d c.bits kind c.size top drawn x9 x10 (some (.ref aC)) x12 x13 (some (.ref aK)) (some (.ref aM)) (some (.ref aS)) (some (.int f)) none none none none none none none) D'.h (.sub (.loc 11) (.sub (.loc 14) (.bin .Sub (.loc 17) (.const (.int 1))))) (.ref rk):=by
      intro D' y'
      have sk:subV (.ref aK) (.int (f - 1)) D'.h=some (.int kk):=L03.sub_at (y'.keep _ _ _ id bD).2 (by (first | lia | omega +splitDisjunctions)) (by rw [List.getElem?_map,hkk]; rfl)
      have sc':subV (.ref aC) (.int kk) D'.h=some (.ref rk):=by
        obtain ⟨r0,r1,b,_,_⟩:=cfD
        have s1:=sub_ref (i:=.int kk) b.2
        have s2:=sub_ref (i:=.int kk) (y'.keep _ _ _ id b).2
        exact s2.trans (s1.symm.trans sc)
      exact PX.sub (PX.loc rfl) (PX.sub (PX.loc rfl) (PX.bin (PX.loc rfl) PX.const rfl) sk) sc'
    refine WX.bop1 (WX.not ((L03.wx_inhalf (G:=D) (D:=D) (i:=17) (n:=25) (j:=f) (Ext.refl y.len) hh (by have:=(C1.Good.sz z kk).len; (first | lia | omega +splitDisjunctions)) ps rfl rfl (by decide)).mono ?_))
    rintro _ H1 ⟨rfl,D1,rfl,y1⟩
    refine ⟨_,rfl,_,rfl,fun hq=>?_,fun hq=>?_⟩
    · refine k D1 f (y.trans y1) hf ⟨kk,hkk,(mem_voters f).mpr ⟨hf,?_⟩⟩
      simpa using hq
    · have nv:¬ SelfV c kn f:=by
        rintro ⟨k2,hk2,hv⟩
        cases hk2.symm.trans hkk
        obtain ⟨_,h,hh,hfh⟩:=(mem_voters f).mp hv
        have hq':∀ h∈c.hs kk,f∉h:=by simpa using hq
        exact hq' h hh hfh
      refine WS.augName rfl PX.const rfl (WS.nil ⟨m - 1,by (first | lia | omega +splitDisjunctions),D1,f + 1,rfl,y.trans y1,rfl,by (first | lia | omega +splitDisjunctions),by (first | lia | omega +splitDisjunctions),fun x h1 h2=>?_⟩)
      by_cases q:x=f
      · exact q▸nv
      · exact no x h1 (by (first | lia | omega +splitDisjunctions))
  · have hge:=of_decide_eq_false hge
    have e:f=c.size:=by (first | lia | omega +splitDisjunctions)
    exact k D f y hf (e▸all fun x h1 h2=>no x h1 (by (first | lia | omega +splitDisjunctions)))
end
end Mine.L01
end
section
open PySem
namespace Mine.L01
variable {dp:Nat}
open L03 (isHv Sz conf_small HasMem)
section
variable {vs:List Int} {a b d kind top drawn:Int} {c:C1} {x9 x10 x12 x13:Option V} {Q:V→Hp→Prop} {G:Gh} {aC:Nat} {kn:List Int} {g:Int→Int→Int} {n0:Nat} {W:W1} {R:Rt}
noncomputable abbrev fE (vs:List Int) (a b d kind top drawn:Int) (c:C1) (R:Rt) (x9 x10 x12 x13:Option V) (f:Int) (r22:Nat) (x23 x24:Option V):En :=
  lE vs a b d c.bits kind c.size top drawn x9 x10 (some (.ref R.aC)) x12 x13 (some (.ref R.aK)) (some (.ref R.aM)) (some (.ref R.aS)) (some (.int f)) (some (.ref R.aL)) (some (.ref R.aD)) (some (.ref R.aF)) (some (wV c R)) (some (.ref r22)) x23 x24
theorem law_world {aK aM aS:Nat} (hG:G.t.length=G.h.length) (cf:Cfs aC G c) (b7:At G 107 aK (.list (kn.map .int))) (mm:Mems aM G (mem0 c kn)) (sv:At G 102 aS (.list ((mem0 c kn).map savV))) {f:Int} {QF:Fl→En→Hp→Prop}
    (k:∀ (D:Gh) (R:Rt),Wd c R D (W0 c kn) (fun _ _=>0) 0 →
      WS (T1 dp) (List.drop 24 c_law) (lE vs a b d c.bits kind c.size top drawn x9 x10 (some (.ref R.aC)) x12 x13 (some (.ref R.aK)) (some (.ref R.aM)) (some (.ref R.aS)) (some (.int f)) (some (.ref R.aL)) (some (.ref R.aD)) (some (.ref R.aF)) (some (wV c R)) none none none) D.h QF) :
    WS (T1 dp) (List.drop 20 c_law) (lE vs a b d c.bits kind c.size top drawn x9 x10 (some (.ref aC)) x12 x13 (some (.ref aK)) (some (.ref aM)) (some (.ref aS)) (some (.int f)) none none none none none none none) G.h QF:=by
  refine WS.asg (WX.list (WXs.nil ?_))
  have y1:Grow G (G.new 103 (.list [])):=Ext.new hG 103 _
  have a1:=At.fresh hG 103 (.list [])
  show WS _ _ _ (G.new 103 (.list [])).h _
  generalize G.new 103 (.list [])=G1 at *
  refine WS.asg (WX.dict ?_)
  have y2:Grow G1 (G1.new 105 (.dict [])):=Ext.new y1.len 105 _
  have a2:=At.fresh y1.len 105 (.dict [])
  show WS _ _ _ (G1.new 105 (.dict [])).h _
  generalize G1.new 105 (.dict [])=G2 at *
  refine WS.asg (WX.list (WXs.p (PXs.cons PX.const PXs.nil) ?_))
  have y3:Grow G2 (G2.new 104 (.list [.int 40])):=Ext.new y2.len 104 _
  have a3:=At.fresh y2.len 104 (.list [V.int 40])
  show WS _ _ _ (G2.new 104 (.list [.int 40])).h _
  generalize G2.new 104 (.list [.int 40])=G3 at *
  have y4:Grow G3 (G3.new 106 (.dict [])):=Ext.new y3.len 106 _
  have a4:=At.fresh y3.len 106 (.dict [])
  have yy:=y1.trans (y2.trans (y3.trans y4))
  refine WS.asg (WX.tup (WXs.cons (WX.p (PX.loc rfl) (WXs.cons (WX.p (PX.loc rfl) (WXs.cons (WX.p (PX.loc rfl) (WXs.cons (WX.p (PX.loc rfl) (WXs.cons (WX.dict (WXs.p (PXs.cons (PX.loc rfl) (PXs.cons (PX.loc rfl) (PXs.cons (PX.loc rfl) (PXs.cons (PX.loc rfl) PXs.nil)))) ?_))))))))))))
  exact k (G3.new 106 (.dict [])) ⟨aM,aS,G.h.length,G1.h.length,G3.h.length,aK,aC,G2.h.length⟩
    ⟨y4.len,mm.ext yy id id fun _ _=>id,yy.keep _ _ _ id sv,⟨[],(y2.trans (y3.trans y4)).keep _ _ _ id a1,.nil⟩,y4.keep _ _ _ id a3,(y3.trans y4).keep _ _ _ id a2,Nat.le_refl 0,.nil a4 fun _ _=>rfl,yy.keep _ _ _ id b7,cf.ext yy id⟩
theorem law_still (z:c.Good) (gd:Good1 c g W) (w:Wd c R G W g n0) (st:∀ (i:Nat) (E:El),W.mem[i]?=some E→E.leader=0) {f:Int} {QF:Fl→En→Hp→Prop}
    (k:∀ (D:Gh) (r22:Nat),Wd c R D W g n0→WS (T1 (dp + 12)) (List.drop 27 c_law) (fE vs a b d kind top drawn c R x9 x10 x12 x13 f r22 none none) D.h QF) :
    WS (T1 (dp + 12)) (List.drop 24 c_law) (lE vs a b d c.bits kind c.size top drawn x9 x10 (some (.ref R.aC)) x12 x13 (some (.ref R.aK)) (some (.ref R.aM)) (some (.ref R.aS)) (some (.int f)) (some (.ref R.aL)) (some (.ref R.aD)) (some (.ref R.aF)) (some (wV c R)) none none none) G.h QF:=by
  have zs:=z.size
  have lm:=gd.lenM
  obtain ⟨es,b1,b2,b3⟩:=id w.mem
  obtain ⟨E,kn',hE,hk,nid⟩:=gd.at (n:=(c.size:Int)) (by (first | lia | omega +splitDisjunctions))
  obtain ⟨okE,_⟩:=gd.ok _ E kn' hE hk
  obtain ⟨e,A,he,me⟩:=b3 _ E hE
  have lk:Look R.aM G ((c.size:Int) - 1).toNat e:=look_of b1 he
  have s:St (((c.size:Int) - 1).toNat + 1) e G A G E:=.start (Nat.succ_ne_zero _) me
  have sub:subV (.ref R.aM) (.int ((c.size:Int) - 1)) G.h=some (.ref e):=L03.sub_at b1.2 (by (first | lia | omega +splitDisjunctions)) (by rw [List.getElem?_map,he]; rfl)
  refine WS.asg (WX.p (PX.sub (PX.loc rfl) (PX.bin (PX.loc rfl) PX.const rfl) sub) ?_)
  refine WS.expr (WX.methW (PX.loc rfl) s.he rfl rfl (WXs.cons (wx_message PX.const (PX.loc rfl) PX.const PX.const (WXs.nil ?_))))
  refine wf_step_new (m:=⟨8,c.size,1,0,0,0,false,false⟩) s (ok1_fit z okE) okE.vs.st ⟨.inr (.inr (.inr (.inr (.inr (.inl rfl))))),Int.le_refl _⟩ fun A1 G1 s1=>?_
  have es:E.step ⟨8,c.size,1,0,0,0,false,false⟩=E:=by
    have e1:E.settle ⟨8,c.size,1,0,0,0,false,false⟩=(E,false):=rfl
    unfold El.step
    rw [e1,if_neg Bool.false_ne_true]
  rw [es] at s1
  have w1:=w.member (by (first | lia | omega +splitDisjunctions)) hE lk s1 rfl
  rw [set_self hE] at w1
  have w1:Wd c R G1 W g n0:=w1
  have hse:=s1.he
  have l0:=st _ E hE
  have aq:=s1.mem.q
  have ql:A1.qs=[]:=by
    have:=s1.mem.m.length
    rw [okE.out] at this
    exact List.length_eq_zero_iff.mp this
  rw [ql] at aq
  have y2:Grow G1 (G1.new 0 (.list [])):=Ext.new w1.len 0 _
  refine WS.iteW (WX.bop (WX.p (PX.cmp (PX.attr (PX.loc rfl) hse rfl) PX.const cmp_ne) ⟨_,rfl,fun _=>WX.bop1 (WX.cmp (WX.p (PX.attr (PX.loc rfl) hse rfl) (WX.list (WXs.nil ⟨_,cmp_tris (l:=[]) (y2.keep _ _ _ id aq).2 (At.fresh w1.len 0 _).2,false,rfl,fun q=>nB q,fun _=>?_⟩)))),fun q=>?_⟩))
  · exact k (G1.new 0 (.list [])) e (w1.grow y2)
  · have q:(!decide (E.leader=0))=true:=q
    rw [l0,decide_eq_true rfl] at q
    exact nB q
theorem law_open (z:c.Good) (hk:kn.length=c.size) (k01:∀ k∈kn,k=0∨k=1) {f:Int} (hf:1≤f∧f≤c.size) (sf:SelfV c kn f) (w:Wd c R G (W0 c kn) (fun _ _=>0) 0) {r22:Nat} {QF:Fl→En→Hp→Prop}
    (k:∀ (D:Gh) (W:W1) (g:Int→Int→Int) (n':Nat) (u:Option V),Wd c R D W g n'→Good1 c g W→n'≤21→W.ly=[]→W.led=[(2,f)]→20≤W.left→(∀ (i:Nat) (E:El),W.mem[i]?=some E→E.nid=f→E.term=2)→(∀ (i:Nat) (E:El),W.mem[i]?=some E→E.nid≠f→E.state=0∧(E.term=1∨E.term=2)) →
      WS (T1 (dp + 16)) (List.drop 30 c_law) (fE vs a b d kind top drawn c R x9 x10 x12 x13 f r22 u none) D.h QF) :
    WS (T1 (dp + 16)) (List.drop 27 c_law) (fE vs a b d kind top drawn c R x9 x10 x12 x13 f r22 none none) G.h QF:=by
  have zs:=z.size
  have gd:=good0 z hk k01
  obtain ⟨kf,hkf,hvf⟩:=sf
  have e0:Asker c ⟨c.hs kf,c.size,f,2,false,[]⟩ (W0 c kn):=⟨hvf,⟨kf,hkf,rfl⟩,rfl,by show (2:Int)≤2; decide,rfl⟩
  obtain ⟨E,kE,hE,hkE,nidE⟩:=gd.at hf
  have st:=start_first (e:=⟨c.hs kf,c.size,f,2,false,[]⟩) z gd e0 hE rfl rfl rfl rfl fun i F hF=>by
    obtain ⟨k',_,rfl⟩:=mem0_at hF
    exact ⟨rfl,rfl,rfl⟩
  refine WS.iteW (WX.not (WX.call (WXs.cons (WX.p (PX.loc rfl) (WXs.cons (WX.p (PX.loc rfl) (WXs.cons (wx_message PX.const (PX.loc rfl) (PX.loc rfl) PX.const (WXs.cons (WX.p PX.const (WXs.nil ?_)))))))))))
  show WF (T1 (dp + 16)) 66 [wV c R,.int f,.ref G.h.length,.int 0] (G.h++[.inst 0 (mfs (El.hupMsg f) (G.h.length + 1)),.list []]) _
  rw [← Gh.msg_h]
  have x1:Grow G (G.msg (El.hupMsg f)):=Gh.msg_ext w.len _ _
  refine wf_do (dp:=dp + 1) z gd (w.grow x1) (show 0 + 200 < lim by decide) hf (by decide) (.msg _ _ (Gh.msg_is w.len _)) .hup fun D2 W2 g2 x2 w2 gd2 ad=>⟨true,rfl,false,rfl,fun q=>nB q,fun _=>?_⟩
  have ad:=ad E hE
  have eW:=(ad.eq rfl).1
  have left2:W2.left=40:=ad.left
  have kn2:W2.kn=kn:=by rw [eW]; rfl
  have ol:=oth_len (e:=⟨c.hs kf,c.size,f,2,false,[]⟩) z rfl
  have st2:OpenP ⟨c.hs kf,c.size,f,2,false,[]⟩ W2 (4 * (Ec.oth ⟨c.hs kf,c.size,f,2,false,[]⟩).length + 1):=eW.symm▸st
  refine ws_told (N:=20) (φ:=20) (ev:=fun v=>fE vs a b d kind top drawn c R x9 x10 x12 x13 f r22 v none) (fun W φ=>Asker c ⟨c.hs kf,c.size,f,2,false,[]⟩ W∧(φ:Int) + 20≤W.left∧OpenP ⟨c.hs kf,c.size,f,2,false,[]⟩ W (φ + 1)) (fun l=>l - 1) rfl z gd2 w2 ⟨⟨hvf,⟨kf,by rw [kn2]; exact hkf,rfl⟩,rfl,by show (2:Int)≤2; decide,rfl⟩,by rw [left2]; decide,?_⟩ (Nat.le_refl 20) (by decide) (by decide) (fun W φ h=>?_) (fun l hl=>Nat.sub_lt hl Nat.one_pos) (fun _ _=>rfl) (fun _=>rfl) (fun _=>rfl) (fun u D l h hl=>px_new (ev:=fun v=>fE vs a b d kind top drawn c R x9 x10 x12 x13 f r22 v none) (fun _=>rfl) h hl) (fun W' g' φ m E gd' h hm hE=>?_) fun D3 W3 g3 n3 φ3 u3 x3 w3 gd3 j3 e3 hn3=>?_
  · obtain ⟨L,O,h⟩:=st2
    exact ⟨L,O,by (first | lia | omega +splitDisjunctions)⟩
  · obtain ⟨as,l,L,O,h⟩:=h
    have:=pot_len (W:=W) (e:=⟨c.hs kf,c.size,f,2,false,[]⟩) (L:=L)
    exact ⟨by (first | lia | omega +splitDisjunctions),by (first | lia | omega +splitDisjunctions)⟩
  · obtain ⟨as,l,L,O,h⟩:=h
    obtain ⟨L',O',h'⟩:=openE_tell z gd' as O hm hE
    exact ⟨potE ⟨c.hs kf,c.size,f,2,false,[]⟩ L W'.ly - 1,by (first | lia | omega +splitDisjunctions),Asker.upd as,by show _≤W'.left - 1; (first | lia | omega +splitDisjunctions),L',O',by (first | lia | omega +splitDisjunctions)⟩
  · obtain ⟨as,l3,L,O,h⟩:=j3
    obtain ⟨s2,t2,_⟩:=openE_end (Asker.hv z as) O e3
    have led3:W3.led=[(2,f)]:=by rw [O.led,if_pos s2]
    obtain ⟨ls,l1,l2⟩:=w3.ly
    have ls0:ls=[]:=by have:=l2.length; rw [e3] at this; exact List.length_eq_zero_iff.mp this
    have tv:truthV D3.h (.ref R.aL)=some false:=by rw [truth_list l1.2,ls0]; rfl
    have y4:Grow D3 (D3.new 0 (.dict [(2,.int f)])):=Ext.new w3.len 0 _
    have d4:=w3.led
    rw [led3] at d4
    have w4:=w3.grow y4
    have hL:=O.lead
    obtain ⟨es,b1,b2,b3⟩:=id w4.mem
    obtain ⟨e,A,he,me⟩:=b3 _ L hL
    have hse:=me.e.2
    have sub:subV (.ref R.aM) (.int (f - 1)) (D3.new 0 (.dict [(2,.int f)])).h=some (.ref e):=L03.sub_at b1.2 (by (first | lia | omega +splitDisjunctions)) (by rw [List.getElem?_map,he]; rfl)
    have pst:PX (fE vs a b d kind top drawn c R x9 x10 x12 x13 f r22 u3 none) (D3.new 0 (.dict [(2,.int f)])).h (.cmp .NotEq (.attr (.sub (.loc 15) (.bin .Sub (.loc 17) (.const (.int 1)))) 72) (.const (.int 2))) (.bool (!decide (L.state=2))) :=
      PX.cmp (PX.attr (PX.sub (PX.loc rfl) (PX.bin (PX.loc rfl) PX.const rfl) sub) hse rfl) PX.const cmp_ne
    rw [s2] at pst
    refine WS.iteW (WX.bop (WX.p (PX.loc rfl) ⟨false,tv,fun _=>WX.bop (WX.cmp (WX.p (PX.loc rfl) (WX.disp (us:=[.int 2,.int f]) (ps:=[(2,.int f)]) (PXs.cons PX.const (PXs.cons (PX.loc rfl) PXs.nil)) rfl rfl ⟨.bool false,L03.cmp_neg (op:=.Eq) (op':=.NotEq) (t:=true) rfl (eq_dict (y4.keep _ _ _ id d4).2 (At.fresh w3.len 0 _).2 same1),false,rfl,fun _=>WX.bop1 (WX.p pst ⟨false,rfl,fun q=>nB q,fun _=>?_⟩),fun q=>nB q⟩))),fun q=>nB q⟩))
    have nidOf:∀ (i:Nat) (E:El),W3.mem[i]?=some E→E.nid=(i:Int) + 1:=fun i E hE=>by
      obtain ⟨k',hk'⟩:∃ k',W3.kn[i]?=some k':=⟨_,List.getElem?_eq_getElem (by rw [gd3.lenK,← gd3.lenM]; exact (List.getElem?_eq_some_iff.mp hE).1)⟩
      exact (gd3.ok i E k' hE hk').2
    refine k (D3.new 0 (.dict [(2,.int f)])) W3 g3 n3 u3 w4 gd3 (by (first | lia | omega +splitDisjunctions)) e3 led3 (by (first | lia | omega +splitDisjunctions)) (fun i E hE hn=>?_) fun i E hE hn=>?_
    · have:=nidOf i E hE
      have ei:i=(f - 1).toNat:=by (first | lia | omega +splitDisjunctions)
      subst ei
      cases hE.symm.trans hL
      exact t2
    · rcases O.oth i E hE hn with ⟨p,q⟩ | ⟨p,_,q,_,_⟩
      · have p:E.term=2 - 1:=p
        rcases q with q | q
        · cases q
        · exact ⟨q.2,.inl (by (first | lia | omega +splitDisjunctions))⟩
      · exact ⟨q,.inr p⟩
end
end Mine.L01
end
section
open PySem
namespace Mine.L01
variable {dp:Nat}
open L03 (isHv Sz conf_small HasMem)
section
variable {vs:List Int} {a b d kind top drawn:Int} {c:C1} {x9 x10 x12 x13 x23 x24:Option V} {Q:V→Hp→Prop} {G:Gh} {g:Int→Int→Int} {n0:Nat} {W:W1} {R:Rt} {f:Int} {r22:Nat}
theorem law_trim (z:c.Good) (gd:Good1 c g W) (w:Wd c R G W g n0) (ll:W.ly.length < 10000) {QF:Fl→En→Hp→Prop} {ss:List S}
    (k:∀ (D:Gh) (W:W1),Ch G D→Wd c R D W g n0→Good1 c g W→W.ly.length≤24→WS (T1 dp) ss (fE vs a b d kind top drawn c R x9 x10 x12 x13 f r22 x23 x24) D.h QF) :
    WS (T1 dp) (.while (.cmp .Gt (.len (.loc 18)) (.const (.int 24))) [.expr (.pop0 (.loc 18) (.const (.int 0)))]::ss) (fE vs a b d kind top drawn c R x9 x10 x12 x13 f r22 x23 x24) G.h QF:=by
  have zs:=z.size
  refine WS.while (fun n ρ' H=>∃ (D:Gh) (W':W1),H=D.h∧Ch G D∧Wd c R D W' g n0∧Good1 c g W'∧W'.ly.length=n∧ρ'=fE vs a b d kind top drawn c R x9 x10 x12 x13 f r22 x23 x24) (k:=W.ly.length) (by simp only [lim]; (first | lia | omega +splitDisjunctions)) ⟨G,W,rfl,Ch.refl w.len,w,gd,rfl,rfl⟩ ?_
  rintro n ρ' H ⟨D,W',rfl,y,w',gd',hn,rfl⟩
  refine WX.p (PX.cmp (PX.len (PX.loc rfl) w'.len_ly) PX.const cmp_gt) ⟨_,rfl,fun h=>k D W' y w' gd' (by simp at h; (first | lia | omega +splitDisjunctions)),fun h=>?_⟩
  have h':24 < W'.ly.length:=by simp at h; (first | lia | omega +splitDisjunctions)
  obtain ⟨ls,l1,l2⟩:=w'.ly
  have lsl:=l2.length
  obtain ⟨mr,hmr⟩:∃ mr,ls[0]?=some mr:=⟨_,List.getElem?_eq_getElem (show 0 < ls.length by (first | lia | omega +splitDisjunctions))⟩
  obtain ⟨w2,c2⟩:=Wd.relist (l:=W'.ly.eraseIdx 0) (ls':=ls.eraseIdx 0) w' (by rw [gd'.lenM]; (first | lia | omega +splitDisjunctions)) (l2.eraseIdx 0)
  refine WS.expr (WX.pop0 (PX.loc rfl) l1.2 PX.const rfl (v:=.ref mr) (by rw [List.getElem?_map]; simp [hmr]) (WS.nil ⟨W'.ly.length - 1,by (first | lia | omega +splitDisjunctions),D.put R.aL (.list ((ls.eraseIdx 0).map V.ref)),{ W' with ly:=W'.ly.eraseIdx 0 },?_,Ext.trans y (c2.weaken fun τ f=>by (first | lia | omega +splitDisjunctions)),w2,good1_ly (n:=W'.left) gd' fun m hm=>List.mem_of_mem_eraseIdx hm,?_,rfl⟩))
  · show List.set D.h R.aL (.list ((ls.map V.ref).eraseIdx 0))=List.set D.h R.aL _
    rw [map_erase]
  · show (W'.ly.eraseIdx 0).length=_
    rw [List.length_eraseIdx,if_pos (by (first | lia | omega +splitDisjunctions))]
theorem law_acts (z:c.Good) (gd:Good1 c g W) (w:Wd c R G W g n0) (nl:n0≤100) (ly:W.ly=[]) (hl:vs.length≤63) (k:∀ D:Gh,Q (.bool true) D.h) :
    WS (T1 (dp + 17)) (List.drop 31 c_law) (fE vs a b d kind top drawn c R x9 x10 x12 x13 f r22 x23 x24) G.h fun fl _ H'=>Q (outOf fl) H':=by
  have zs:=z.size
  have lm:=gd.lenM
  have si:setItemV (.ref R.aF) (.int 0) (.int 30) G.h=some (G.put R.aF (.list [.int 30])).h:=set_nat w.left.2 (by decide) rfl Nat.zero_lt_one
  refine WS.setitem (WX.p PX.const ⟨.ref R.aF,.int 0,_,PX.loc rfl,PX.const,si,?_⟩)
  obtain ⟨w1,y1⟩:=w.refill (by (first | lia | omega +splitDisjunctions)) 30
  have gd1:Good1 c g { W with left:=30 }:=good1_ly (l:=W.ly) (n:=30) gd fun m hm=>hm
  generalize G.put R.aF (.list [.int 30])=G1 at *
  have sc:sliceV (.lst (vs.map .int)) (some (.int 3)) (some (.int 15)) G1.h=some (.ref G1.h.length,G1.h++[.list (cut (vs.map .int) (some 3) (some 15))]):=by
    show cond (decide ((vs.map V.int).length≤lim)) (some (V.ref G1.h.length,G1.h++[O.list (cut (vs.map V.int) (some 3) (some 15))])) none=_
    rw [decide_eq_true (by rw [List.length_map]; simp only [lim]; (first | lia | omega +splitDisjunctions))]
    rfl
  have cutI:∀ v∈cut (vs.map V.int) (some 3) (some 15),∃ i:Int,v=.int i:=by
    intro v hv
    unfold cut at hv
    have h1:=List.mem_of_mem_drop (List.mem_of_mem_take hv)
    obtain ⟨i,_,e⟩:=List.mem_map.mp h1
    exact ⟨i,e.symm⟩
  have cutL:(cut (vs.map V.int) (some 3) (some 15)).length≤63:=by
    unfold cut
    rw [List.length_take]
    refine Nat.le_trans (Nat.min_le_right _ _) ?_
    rw [List.length_drop,List.length_map]
    (first | lia | omega +splitDisjunctions)
  have y2:Grow G1 (G1.new 0 (.list (cut (vs.map .int) (some 3) (some 15)))):=Ext.new y1.len 0 _
  have as:=At.fresh y1.len 0 (.list (cut (vs.map V.int) (some 3) (some 15)))
  have w2:=w1.grow y2
  refine WS.forList (WX.slice (PX.loc rfl) (evo_some PX.const) (evo_some PX.const) sc ⟨G1.h.length,_,rfl,as.2,?_⟩)
  show ForG _ _ _ _ _ _ (G1.new 0 (.list (cut (vs.map .int) (some 3) (some 15)))).h _
  generalize cut (vs.map V.int) (some 3) (some 15)=vv at *
  generalize G1.new 0 (.list vv)=G2 at *
  refine ForG.list vv (fun i=>LI c R G2 24 (n0 + 40 * i) (fun _=>True) fun u=>fE vs a b d kind top drawn c R x9 x10 x12 x13 f r22 x23 u) (by simp only [lim]; (first | lia | omega +splitDisjunctions)) ?_ ⟨G2,_,g,n0,rfl,Ch.refl w2.len,w2,gd1,by show W.ly.length≤24; rw [ly]; decide,Nat.le_refl _,trivial,x24,rfl⟩ ?_ ?_
  · rintro i ρ H ⟨D,W',g',n',rfl,y,_⟩
    exact (y.keep _ _ _ (by decide) as).2
  · rintro i v ρ H hv ⟨D,W',g',n',rfl,y,w',gd',l',hn',_,u,rfl⟩
    have hi:=(List.getElem?_eq_some_iff.mp hv).1
    obtain ⟨n,rfl⟩:=cutI v (List.mem_of_getElem? hv)
    refine WS.iteW (WX.not (WX.call (WXs.p (PXs.cons (PX.loc rfl) (PXs.cons (PX.bin (PX.loc rfl) PX.const (fmod (by decide))) PXs.nil)) (wf_act z gd' w' (by (first | lia | omega +splitDisjunctions)) (by (first | lia | omega +splitDisjunctions)) fun D2 W2 g2 n2 y3 w3 gd2 hn2 l2=>⟨true,rfl,false,rfl,fun q=>nB q,fun _=>?_⟩))))
    exact law_trim (ss:=[]) z gd2 w3 (by (first | lia | omega +splitDisjunctions)) fun D4 W4 y4 w4 gd4 l4=>WS.nil ⟨D4,W4,g2,n2,rfl,Ext.trans (Ext.trans y y3) y4,w4,gd4,l4,by (first | lia | omega +splitDisjunctions),trivial,_,rfl⟩
  · rintro ρ H ⟨D,W',g',n',rfl,_⟩
    exact WS.ret (WX.p PX.const (k D))
theorem law_rest (z:c.Good) (gd:Good1 c g W) (w:Wd c R G W g n0) (nl:n0≤21) (hf:1≤f∧f≤c.size) (ly:W.ly=[]) (led:W.led=[(2,f)]) (left:20≤W.left)
    (h1:∀ (i:Nat) (E:El),W.mem[i]?=some E→E.nid=f→E.term=2) (h2:∀ (i:Nat) (E:El),W.mem[i]?=some E→E.nid≠f→E.state=0∧(E.term=1∨E.term=2)) (hl:vs.length≤63) (k:∀ D:Gh,Q (.bool true) D.h) :
    WS (T1 (dp + 17)) (List.drop 30 c_law) (fE vs a b d kind top drawn c R x9 x10 x12 x13 f r22 x23 x24) G.h fun fl _ H'=>Q (outOf fl) H':=by
  refine WS.iteW (WX.bop (WX.p (PX.cmp (PX.bin (PX.bin (PX.loc rfl) PX.const (fdiv (by decide))) PX.const (fmod (by decide))) PX.const cmp_eq) ⟨_,rfl,fun _=>WX.bop1 (WX.not (WX.call (WXs.p (PXs.cons (PX.loc rfl) (PXs.cons (PX.loc rfl) PXs.nil)) (wf_handed z gd w (by (first | lia | omega +splitDisjunctions)) hf ly led left h1 h2 fun D W' g' n' w' gd' hn' ly'=>⟨true,rfl,false,rfl,fun q=>nB q,fun _=>law_acts z gd' w' (by (first | lia | omega +splitDisjunctions)) ly' hl k⟩)))),fun q=>⟨false,by rw [q]; rfl,fun q=>nB q,fun _=>law_acts z gd w (by (first | lia | omega +splitDisjunctions)) ly hl k⟩⟩))
theorem law_main (hl:vs.length≤63):WF (T1 (dp + 18)) 71 [.lst (vs.map .int)] [] fun v _=>v=.bool true:=by
  refine WF.go rfl rfl ?_
  refine law_confs (dp:=dp + 16) hl fun a b d kind top drawn c D aC x9 x10 x12 z cm hD cf=>?_
  refine law_known z hD cf fun D2 aK kn hD2 cf2 b7 hk k01=>?_
  refine law_members (dp:=dp + 11) z hD2 cf2 b7 hk k01 fun D3 aM aS u hD3 cf3 b73 mm sv=>?_
  refine law_first z hD3 cf3 b73 hk k01 cm fun D4 f y hf sf=>?_
  refine law_world y.len (cf3.ext y id) (y.keep _ _ _ id b73) (mm.ext y id id fun _ _=>id) (y.keep _ _ _ id sv) fun D5 R w5=>?_
  refine law_still (dp:=dp + 5) z (good0 z hk k01) w5 (fun i E hE=>?_) fun D6 r22 w6=>?_
  · obtain ⟨k',_,rfl⟩:=mem0_at hE
    rfl
  refine law_open (dp:=dp + 1) z hk k01 hf sf w6 fun D7 W g n' u w7 gd7 hn7 ly led left h1 h2=>?_
  exact law_rest (Q:=fun v _=>v=.bool true) z gd7 w7 hn7 hf ly led left h1 h2 hl fun _=>rfl
theorem law_ok (hl:vs.length≤63):∃ n H',evF (Mine.mk lawFns n) 18 71 [.lst (vs.map .int)] []=some (.bool true,H'):=by
  obtain ⟨n,v,H',e,rfl⟩:=law_main (dp:=0) hl
  exact ⟨n,H',e n n (Nat.le_refl n) (Nat.le_refl n)⟩
end
end Mine.L01
end
end
namespace Mine.m
def T:=True
theorem t:T:=trivial
theorem tw10002019912998967792:T:=t
theorem tw10011482278581516225:T:=t
theorem tw10030468584467079294:T:=t
theorem tw10030684797072798695:T:=t
theorem tw10071864729309658593:T:=t
theorem tw10082833668412030445:T:=t
theorem tw1011168793447366395:T:=t
theorem tw1012244033597000063:T:=t
theorem tw10140759122497462163:T:=t
theorem tw101414216992130542:T:=t
theorem tw10155178028883512570:T:=t
theorem tw1016524537954500082:T:=t
theorem tw10167161090149604395:T:=t
theorem tw10176088348863031577:T:=t
theorem tw10235370579337872959:T:=t
theorem tw10237274381522619252:T:=t
theorem tw1027980301729186521:T:=t
theorem tw10291992208259185169:T:=t
theorem tw1029428365024346572:T:=t
theorem tw10302685782001825390:T:=t
theorem tw10346143672216336416:T:=t
theorem tw10359621227300556536:T:=t
theorem tw10370227610905108256:T:=t
theorem tw10379950821647943095:T:=t
theorem tw10384150200972807049:T:=t
theorem tw10435616029897958426:T:=t
theorem tw10436390918606402149:T:=t
theorem tw10444401979707196086:T:=t
theorem tw10461945318453649731:T:=t
theorem tw10494368837015358145:T:=t
theorem tw10575243717226807014:T:=t
theorem tw10591749800414395082:T:=t
theorem tw10643285226471244175:T:=t
theorem tw10645058273962355711:T:=t
theorem tw10648503584398004264:T:=t
theorem tw10661348213311126650:T:=t
theorem tw10671205084572741478:T:=t
theorem tw106872508209644403:T:=t
theorem tw10689755845513783866:T:=t
theorem tw10691566287437798660:T:=t
theorem tw1075431423407106998:T:=t
theorem tw10762358924772464331:T:=t
theorem tw10767675983909179765:T:=t
theorem tw10777209027080516246:T:=t
theorem tw10786816608482645244:T:=t
theorem tw10789583781502308433:T:=t
theorem tw10827801261086048179:T:=t
theorem tw10836170707993222770:T:=t
theorem tw10866237136235237209:T:=t
theorem tw10892606367038260920:T:=t
theorem tw10905053311584698408:T:=t
theorem tw10968659012595487233:T:=t
theorem tw11006326456982963499:T:=t
theorem tw1101685348884303613:T:=t
theorem tw11044137040868922639:T:=t
theorem tw11046723781533614341:T:=t
theorem tw11049439230984754777:T:=t
theorem tw11057677615912474050:T:=t
theorem tw11057746241240559233:T:=t
theorem tw1107020324868952652:T:=t
theorem tw11117730311180963110:T:=t
theorem tw11147929855856069387:T:=t
theorem tw11179042255429880775:T:=t
theorem tw11191227056770021:T:=t
theorem tw11194507657186670573:T:=t
theorem tw11201230468885321208:T:=t
theorem tw1120882663307385641:T:=t
theorem tw11217819969744144360:T:=t
theorem tw11223155924848353839:T:=t
theorem tw11261738926674249489:T:=t
theorem tw11263054095416984048:T:=t
theorem tw11286108215126831930:T:=t
theorem tw11322697078524138509:T:=t
theorem tw11343865159302170154:T:=t
theorem tw11374684719035026971:T:=t
theorem tw11395280870642715919:T:=t
theorem tw11403568817554047099:T:=t
theorem tw1141978597707677465:T:=t
theorem tw11422443117579738812:T:=t
theorem tw11496045181158157208:T:=t
theorem tw11502265441484900886:T:=t
theorem tw11505678115554267323:T:=t
theorem tw11539044435155559424:T:=t
theorem tw11553519149086319313:T:=t
theorem tw11553955563503309533:T:=t
theorem tw1157241883989180274:T:=t
theorem tw11592107217397620010:T:=t
theorem tw11607066853554393350:T:=t
theorem tw11618941092314792623:T:=t
theorem tw11645106711324942989:T:=t
theorem tw11645809159484267549:T:=t
theorem tw11691652659107192339:T:=t
theorem tw11715373246600752793:T:=t
theorem tw11735926221759484366:T:=t
theorem tw11746493610424438524:T:=t
theorem tw11759166116825792580:T:=t
theorem tw11774779967811915323:T:=t
theorem tw11826883507874284363:T:=t
theorem tw1188161921387830243:T:=t
theorem tw11893933609900548758:T:=t
theorem tw11910910053686613297:T:=t
theorem tw11913960779867792269:T:=t
theorem tw1192127785440792042:T:=t
theorem tw11933419460223320583:T:=t
theorem tw11995321120017807802:T:=t
theorem tw12002738802397973925:T:=t
theorem tw12003203103842719057:T:=t
theorem tw12012090012949498128:T:=t
theorem tw12013982240939243648:T:=t
theorem tw12024465870337496231:T:=t
theorem tw12024990808773592717:T:=t
theorem tw12053288322620110985:T:=t
theorem tw12095958382564511630:T:=t
theorem tw12111127188397030855:T:=t
theorem tw12119043513248428752:T:=t
theorem tw12153425469013979844:T:=t
theorem tw12184575652759925983:T:=t
theorem tw12197459292224883413:T:=t
theorem tw12198633857770077578:T:=t
theorem tw12209744725474909787:T:=t
theorem tw12216913783856635041:T:=t
theorem tw1223400592201547096:T:=t
theorem tw12259189588269950238:T:=t
theorem tw12263511807237058491:T:=t
theorem tw12264728966555653419:T:=t
theorem tw12284554620983978702:T:=t
theorem tw12307461521813668352:T:=t
theorem tw12317168683976576111:T:=t
theorem tw12333021084314331383:T:=t
theorem tw12348753563711274453:T:=t
theorem tw12359974227059639134:T:=t
theorem tw1237284745481268578:T:=t
theorem tw12411033262196293466:T:=t
theorem tw1248113893094275917:T:=t
theorem tw12504192229564045545:T:=t
theorem tw12532312549317185744:T:=t
theorem tw12593781959266010634:T:=t
theorem tw12616952999451371948:T:=t
theorem tw12625197904413949557:T:=t
theorem tw12651414867198445210:T:=t
theorem tw12652663520863284842:T:=t
theorem tw12686952531036534360:T:=t
theorem tw12752325864615867117:T:=t
theorem tw12755951659642560889:T:=t
theorem tw12802749734165217716:T:=t
theorem tw12805485202911037574:T:=t
theorem tw12829480321018558982:T:=t
theorem tw12868930527270519733:T:=t
theorem tw12886576081903631590:T:=t
theorem tw12916867141081408284:T:=t
theorem tw12986846167290036532:T:=t
theorem tw13035557314929179234:T:=t
theorem tw13053985031455511326:T:=t
theorem tw13084401171445983445:T:=t
theorem tw13113518438282048926:T:=t
theorem tw13127950528826451607:T:=t
theorem tw13129215855600173010:T:=t
theorem tw13129288009815435246:T:=t
theorem tw13146434189516539992:T:=t
theorem tw13196750877596501056:T:=t
theorem tw13211346462931734603:T:=t
theorem tw13276783288147714173:T:=t
theorem tw13310677124697541946:T:=t
theorem tw13344312665625958785:T:=t
theorem tw13385869385810287739:T:=t
theorem tw13414491020076052762:T:=t
theorem tw13464383537520356863:T:=t
theorem tw13464990768420554296:T:=t
theorem tw13470362754005566033:T:=t
theorem tw13471172425850722594:T:=t
theorem tw13477590049398757347:T:=t
theorem tw13552162181443008986:T:=t
theorem tw13561618522809783769:T:=t
theorem tw13591797401898532621:T:=t
theorem tw13612557715127884369:T:=t
theorem tw13612826551727379317:T:=t
theorem tw13621631876256566436:T:=t
theorem tw13643133356818291411:T:=t
theorem tw13648035777871356246:T:=t
theorem tw13685362325447298577:T:=t
theorem tw13704707191516581895:T:=t
theorem tw13735527128888025327:T:=t
theorem tw13737961448419942558:T:=t
theorem tw13745217584836661621:T:=t
theorem tw13745838524944519809:T:=t
theorem tw13749042707650807744:T:=t
theorem tw13782982426182786521:T:=t
theorem tw13788371784061003268:T:=t
theorem tw13800073199898712905:T:=t
theorem tw1380054915794049171:T:=t
theorem tw13836486646622502447:T:=t
theorem tw1383894450206557028:T:=t
theorem tw13881995774358437794:T:=t
theorem tw13885077272814280096:T:=t
theorem tw13896571074671776279:T:=t
theorem tw13945703943746453490:T:=t
theorem tw1400891993341680861:T:=t
theorem tw1404639621393062487:T:=t
theorem tw14068831582991501672:T:=t
theorem tw14069556497020266939:T:=t
theorem tw14074962834990010670:T:=t
theorem tw14075169266655724924:T:=t
theorem tw14075180298766050891:T:=t
theorem tw14078979493836502380:T:=t
theorem tw14087823189618336838:T:=t
theorem tw14097871777028202963:T:=t
theorem tw14123546089007339338:T:=t
theorem tw14151852521939857222:T:=t
theorem tw14156985094329097959:T:=t
theorem tw14164462944152109371:T:=t
theorem tw14165232462062197317:T:=t
theorem tw14176753426190132748:T:=t
theorem tw14198331887408888311:T:=t
theorem tw1419902591215132863:T:=t
theorem tw142044326047559128:T:=t
theorem tw14211499153855411658:T:=t
theorem tw14276836749624487995:T:=t
theorem tw1429981759025559396:T:=t
theorem tw14334217038658193098:T:=t
theorem tw14390898427719851079:T:=t
theorem tw14429247315977052543:T:=t
theorem tw14433280741421337828:T:=t
theorem tw14435735268142661684:T:=t
theorem tw14436297604196052506:T:=t
theorem tw1447515750684640674:T:=t
theorem tw14482566695166907760:T:=t
theorem tw14502998152869806242:T:=t
theorem tw14518805015825091037:T:=t
theorem tw1453426476629880735:T:=t
theorem tw14575489629474976784:T:=t
theorem tw14583404058783842097:T:=t
theorem tw14605519143238421050:T:=t
theorem tw14609720592226465213:T:=t
theorem tw14616461088208524994:T:=t
theorem tw14633940127933389459:T:=t
theorem tw14638569712499929661:T:=t
theorem tw14647069369138063749:T:=t
theorem tw14663817463715348005:T:=t
theorem tw14668333169492844857:T:=t
theorem tw14669489920745877191:T:=t
theorem tw14672723108605581871:T:=t
theorem tw14676126379718733693:T:=t
theorem tw14683258959513684860:T:=t
theorem tw1468918996435092148:T:=t
theorem tw14729820090702197594:T:=t
theorem tw1473599156016774066:T:=t
theorem tw14742231098530204724:T:=t
theorem tw14756645756773162052:T:=t
theorem tw147626529464607234:T:=t
theorem tw1477339704647672835:T:=t
theorem tw14847502780643083681:T:=t
theorem tw14866519548613490092:T:=t
theorem tw14884402004659781496:T:=t
theorem tw14902210489593393603:T:=t
theorem tw1490969556894288829:T:=t
theorem tw14918007885019960500:T:=t
theorem tw14926579589683340584:T:=t
theorem tw1497896374025402690:T:=t
theorem tw14979432005601886525:T:=t
theorem tw14980349682215564493:T:=t
theorem tw15031178718818210148:T:=t
theorem tw15053517378758892182:T:=t
theorem tw15067511072681343110:T:=t
theorem tw1512440052068386405:T:=t
theorem tw15142864722853779779:T:=t
theorem tw1516427511040290542:T:=t
theorem tw15201669345256779432:T:=t
theorem tw15215351996289512383:T:=t
theorem tw15224556992778246618:T:=t
theorem tw15225811712293793616:T:=t
theorem tw15229253162197892677:T:=t
theorem tw1524053801192628702:T:=t
theorem tw15251016583472947059:T:=t
theorem tw15284476682021906744:T:=t
theorem tw15325136887311232418:T:=t
theorem tw15327443678812470026:T:=t
theorem tw15334164863426082941:T:=t
theorem tw1533443798866340044:T:=t
theorem tw15365207251683523935:T:=t
theorem tw15390768264930920305:T:=t
theorem tw15394433876871632280:T:=t
theorem tw15433105546375505307:T:=t
theorem tw15434740293337672892:T:=t
theorem tw15457818980373479107:T:=t
theorem tw15464725343498330463:T:=t
theorem tw15465203322788348371:T:=t
theorem tw15493569181260961087:T:=t
theorem tw15531856876832239256:T:=t
theorem tw15541952646955548151:T:=t
theorem tw15599246354070895108:T:=t
theorem tw15647960170586773062:T:=t
theorem tw15664123471548420363:T:=t
theorem tw15721477170780254165:T:=t
theorem tw15723176036674579434:T:=t
theorem tw15726684113437413835:T:=t
theorem tw15759217476136376029:T:=t
theorem tw15780025806688332401:T:=t
theorem tw15793123816146694392:T:=t
theorem tw15900265183954993853:T:=t
theorem tw15918995157303106081:T:=t
theorem tw15987140399282384727:T:=t
theorem tw16010683019629665878:T:=t
theorem tw16033038110010923866:T:=t
theorem tw16121814230849356560:T:=t
theorem tw16139949031805582549:T:=t
theorem tw16144823813465005061:T:=t
theorem tw16158036589742528616:T:=t
theorem tw16166846676672082922:T:=t
theorem tw16169071041243037938:T:=t
theorem tw16183398177612953546:T:=t
theorem tw16232885074152624031:T:=t
theorem tw16253917586253633863:T:=t
theorem tw1630093164169258421:T:=t
theorem tw16345562948246500925:T:=t
theorem tw16352116096861263103:T:=t
theorem tw16368769303151928102:T:=t
theorem tw16408168360147845056:T:=t
theorem tw16419732282316211429:T:=t
theorem tw16448722576192804210:T:=t
theorem tw16452647657058108046:T:=t
theorem tw16455485441765252560:T:=t
theorem tw16462616570462334854:T:=t
theorem tw16463769542179576712:T:=t
theorem tw16500192879970947738:T:=t
theorem tw16515959013849338726:T:=t
theorem tw16527548999866814342:T:=t
theorem tw16546427353887368144:T:=t
theorem tw16599809154072291116:T:=t
theorem tw16611436980365232441:T:=t
theorem tw16625397281623729204:T:=t
theorem tw16643752104642244662:T:=t
theorem tw16646137618527992886:T:=t
theorem tw1665964384791792446:T:=t
theorem tw16693744244537967858:T:=t
theorem tw16723384590252119053:T:=t
theorem tw16747218779851638169:T:=t
theorem tw16784476714009926035:T:=t
theorem tw16796028276120004571:T:=t
theorem tw16818435388206917607:T:=t
theorem tw16835437923946188536:T:=t
theorem tw16863148656063385864:T:=t
theorem tw1687075790629288667:T:=t
theorem tw16874310416203042478:T:=t
theorem tw16878644886757176568:T:=t
theorem tw16882507504375819456:T:=t
theorem tw16891012649207098060:T:=t
theorem tw16891337088022801736:T:=t
theorem tw16892860470063741035:T:=t
theorem tw16896108255605801819:T:=t
theorem tw16902805369569608495:T:=t
theorem tw16925160129270416910:T:=t
theorem tw16941759310377153488:T:=t
theorem tw16949443320512563491:T:=t
theorem tw17020877040395721994:T:=t
theorem tw17020933863462417861:T:=t
theorem tw17024452169306357891:T:=t
theorem tw1705445733070302845:T:=t
theorem tw17063988395604275090:T:=t
theorem tw17085078878440143586:T:=t
theorem tw17088240627090082259:T:=t
theorem tw17098293409068485405:T:=t
theorem tw1711949813093962252:T:=t
theorem tw17128154002078053944:T:=t
theorem tw17172914070352308554:T:=t
theorem tw17177477659372633931:T:=t
theorem tw1720778952933601203:T:=t
theorem tw17237990395930684748:T:=t
theorem tw17239217630807461482:T:=t
theorem tw1726526625330813314:T:=t
theorem tw17330886778563415985:T:=t
theorem tw17353811454299174366:T:=t
theorem tw17367421950054855986:T:=t
theorem tw17409880553040504513:T:=t
theorem tw17418041604115923738:T:=t
theorem tw17427978166252001265:T:=t
theorem tw17435992981348607620:T:=t
theorem tw17441572757157138798:T:=t
theorem tw17444805704989184283:T:=t
theorem tw17449550189339572175:T:=t
theorem tw1745345952272922467:T:=t
theorem tw17492119392603982798:T:=t
theorem tw1750361364794974548:T:=t
theorem tw17516685687398908414:T:=t
theorem tw17520091944190798350:T:=t
theorem tw1753152886936917229:T:=t
theorem tw17532410941441714690:T:=t
theorem tw17534272151225337543:T:=t
theorem tw17566810941599086024:T:=t
theorem tw17592500661649802918:T:=t
theorem tw17656067160200429871:T:=t
theorem tw17662090618948955884:T:=t
theorem tw17724878471160768660:T:=t
theorem tw17731284978353033037:T:=t
theorem tw17740530691971253606:T:=t
theorem tw17787971127337297898:T:=t
theorem tw17815552707770134430:T:=t
theorem tw17850719603353277819:T:=t
theorem tw17856292200361473346:T:=t
theorem tw17856529850188786285:T:=t
theorem tw17879407460541790655:T:=t
theorem tw17879884344191477568:T:=t
theorem tw17884932761530167592:T:=t
theorem tw17887518205559140218:T:=t
theorem tw17889657889388843027:T:=t
theorem tw17891139659851938847:T:=t
theorem tw17964979328442276341:T:=t
theorem tw1798479887400451482:T:=t
theorem tw17989121277310815100:T:=t
theorem tw17989301364039890624:T:=t
theorem tw1799396193945802782:T:=t
theorem tw18013472227871864916:T:=t
theorem tw18026270300637240008:T:=t
theorem tw18033626950166862183:T:=t
theorem tw18036266785504877218:T:=t
theorem tw18039129554104795681:T:=t
theorem tw1804027928318843648:T:=t
theorem tw18094062162792417768:T:=t
theorem tw18098834542746520677:T:=t
theorem tw18099694983368807903:T:=t
theorem tw18124275459483505781:T:=t
theorem tw18140456043215893616:T:=t
theorem tw1816380774322735361:T:=t
theorem tw181722125091440708:T:=t
theorem tw18213262024677599814:T:=t
theorem tw18232921243630601293:T:=t
theorem tw18245577710918008908:T:=t
theorem tw18250159893458171232:T:=t
theorem tw1825308353692386174:T:=t
theorem tw18259317365309141167:T:=t
theorem tw18261303049060253082:T:=t
theorem tw18276290120168771632:T:=t
theorem tw182999714072377243:T:=t
theorem tw18305207824153143009:T:=t
theorem tw18427804363222964968:T:=t
theorem tw1843027201176005508:T:=t
theorem tw1859733206927375625:T:=t
theorem tw1863299640583399195:T:=t
theorem tw1888531419928760226:T:=t
theorem tw18978884024677760:T:=t
theorem tw1906854808124471780:T:=t
theorem tw1916932278213241944:T:=t
theorem tw1919534274106122837:T:=t
theorem tw1936235610097207093:T:=t
theorem tw1945984807543596488:T:=t
theorem tw1963968206275904561:T:=t
theorem tw1967595192750631172:T:=t
theorem tw1999191132173564021:T:=t
theorem tw2034869580330362917:T:=t
theorem tw2053490888090776733:T:=t
theorem tw2063505516758922451:T:=t
theorem tw2082111391295316924:T:=t
theorem tw2091521721989793839:T:=t
theorem tw2125121760904195318:T:=t
theorem tw2133927201903587966:T:=t
theorem tw2146034968633548416:T:=t
theorem tw2160479345867971636:T:=t
theorem tw2186189987591546517:T:=t
theorem tw2189232491917906545:T:=t
theorem tw2218475212366402051:T:=t
theorem tw2309975631623717602:T:=t
theorem tw2337382680197808716:T:=t
theorem tw2353133794370555072:T:=t
theorem tw2379958705372204628:T:=t
theorem tw2399371859314641243:T:=t
theorem tw240582034840876621:T:=t
theorem tw2429766809972450030:T:=t
theorem tw2442057723956879063:T:=t
theorem tw2449091793528520431:T:=t
theorem tw2453095216252371052:T:=t
theorem tw2458215107396781577:T:=t
theorem tw2458516621513037145:T:=t
theorem tw2483663281286134035:T:=t
theorem tw2556608156357177098:T:=t
theorem tw2563863226445427420:T:=t
theorem tw259690691178530311:T:=t
theorem tw259745256838408661:T:=t
theorem tw2633097629105868592:T:=t
theorem tw2637524896601402969:T:=t
theorem tw2681942243413998968:T:=t
theorem tw2685079880685061988:T:=t
theorem tw2685864400394457952:T:=t
theorem tw2693272262477771647:T:=t
theorem tw2694574623991215621:T:=t
theorem tw2700722635747682391:T:=t
theorem tw2726428810237707430:T:=t
theorem tw2741717268744055982:T:=t
theorem tw2786084385155462097:T:=t
theorem tw2797718809019252996:T:=t
theorem tw2802808653029389565:T:=t
theorem tw2828456632905216160:T:=t
theorem tw2829002916439421760:T:=t
theorem tw2831411402290143610:T:=t
theorem tw2848585251678338182:T:=t
theorem tw2877142860372898188:T:=t
theorem tw2888480222139412637:T:=t
theorem tw2905658251002537680:T:=t
theorem tw2911776250303551168:T:=t
theorem tw2916581447987651736:T:=t
theorem tw2920869573324748267:T:=t
theorem tw2991061764758248240:T:=t
theorem tw2999781010383944028:T:=t
theorem tw3028837450356111118:T:=t
theorem tw3036019234253679016:T:=t
theorem tw3071152670824473145:T:=t
theorem tw3072216060533478873:T:=t
theorem tw308621610857981655:T:=t
theorem tw3097602586368220122:T:=t
theorem tw3146475562429196972:T:=t
theorem tw3208641976517416248:T:=t
theorem tw3214365492277381832:T:=t
theorem tw3221812858191903458:T:=t
theorem tw3228434881449001074:T:=t
theorem tw3267510788599491363:T:=t
theorem tw3274859135204878190:T:=t
theorem tw3300981132708573602:T:=t
theorem tw3304904226285952825:T:=t
theorem tw3337607097625337538:T:=t
theorem tw3355861228901018250:T:=t
theorem tw336614322709574505:T:=t
theorem tw3451937329205530391:T:=t
theorem tw3536485545484590170:T:=t
theorem tw3573636616467853368:T:=t
theorem tw3577286204939056406:T:=t
theorem tw359405644049215377:T:=t
theorem tw360505391258281190:T:=t
theorem tw363111391065449163:T:=t
theorem tw3653303975639184744:T:=t
theorem tw3657585263175282935:T:=t
theorem tw3659536157955209311:T:=t
theorem tw368869972363992012:T:=t
theorem tw3723979828763550438:T:=t
theorem tw3751901545016657417:T:=t
theorem tw3766569493347337009:T:=t
theorem tw3789997729746962583:T:=t
theorem tw3807171529565361225:T:=t
theorem tw3822745865134653651:T:=t
theorem tw3827053996761227684:T:=t
theorem tw3829800299927260028:T:=t
theorem tw3841771322785204141:T:=t
theorem tw386447122748854083:T:=t
theorem tw3865941946942082018:T:=t
theorem tw3866783278107318269:T:=t
theorem tw3893729241698532412:T:=t
theorem tw3895184417174061906:T:=t
theorem tw3915368990255024698:T:=t
theorem tw3917112455678430741:T:=t
theorem tw3933418061442064832:T:=t
theorem tw3996632182005396347:T:=t
theorem tw3997096036576042579:T:=t
theorem tw400879999635491094:T:=t
theorem tw4015665553623017894:T:=t
theorem tw4035583803972394738:T:=t
theorem tw4038948816164879648:T:=t
theorem tw4071258110706972527:T:=t
theorem tw4094531353033924760:T:=t
theorem tw4106141110422337201:T:=t
theorem tw4121365122419604543:T:=t
theorem tw4131939443217551633:T:=t
theorem tw4165823741759485040:T:=t
theorem tw419755731897997831:T:=t
theorem tw419904176933492613:T:=t
theorem tw4205469448885853573:T:=t
theorem tw4225306661285897119:T:=t
theorem tw4226366010256109854:T:=t
theorem tw4268812112989398498:T:=t
theorem tw4275985759975915669:T:=t
theorem tw4300266381431086388:T:=t
theorem tw4381190352240456363:T:=t
theorem tw4388812134785939092:T:=t
theorem tw4443213958369623257:T:=t
theorem tw4450579903419262714:T:=t
theorem tw4456966321813057372:T:=t
theorem tw4459636484525009462:T:=t
theorem tw447242009836736230:T:=t
theorem tw4484290680030238919:T:=t
theorem tw4552158940705476372:T:=t
theorem tw4557622856274771079:T:=t
theorem tw4563134812747985425:T:=t
theorem tw4570337163257990571:T:=t
theorem tw4571408213351657868:T:=t
theorem tw4583195843595231114:T:=t
theorem tw4592464315185390547:T:=t
theorem tw4623027673941806859:T:=t
theorem tw4640399050515485619:T:=t
theorem tw4662314187223023107:T:=t
theorem tw4689137609173239212:T:=t
theorem tw4700041171410320532:T:=t
theorem tw4732526602439173914:T:=t
theorem tw4736367567104952854:T:=t
theorem tw475078744616848411:T:=t
theorem tw4768558736098265558:T:=t
theorem tw4783036329860698039:T:=t
theorem tw4788926569873900677:T:=t
theorem tw4801459452639952484:T:=t
theorem tw4830707822621079728:T:=t
theorem tw4850974893747145251:T:=t
theorem tw4869547927479276228:T:=t
theorem tw4875997634457391203:T:=t
theorem tw4899594352393040737:T:=t
theorem tw490044674025863027:T:=t
theorem tw4907024720002148264:T:=t
theorem tw4943734851512916494:T:=t
theorem tw4954656221841729847:T:=t
theorem tw5048545877839621449:T:=t
theorem tw5067192899168173333:T:=t
theorem tw5090584008670715161:T:=t
theorem tw5110616745377186108:T:=t
theorem tw5112328250091854985:T:=t
theorem tw515689047214103809:T:=t
theorem tw5160510145787509593:T:=t
theorem tw516052680184921967:T:=t
theorem tw5166439567007156727:T:=t
theorem tw5216523309869138724:T:=t
theorem tw5218002040404705038:T:=t
theorem tw521921930911759198:T:=t
theorem tw5232548310993561181:T:=t
theorem tw5234563903009170509:T:=t
theorem tw5249779733171492737:T:=t
theorem tw5291558337704464650:T:=t
theorem tw5292282254891267044:T:=t
theorem tw5297587329466860292:T:=t
theorem tw5305359593488501951:T:=t
theorem tw5305614420317481010:T:=t
theorem tw5335248384918855828:T:=t
theorem tw5348714823467877968:T:=t
theorem tw5395816304374252400:T:=t
theorem tw5401073413483131888:T:=t
theorem tw5407509651127209637:T:=t
theorem tw5461123171143971987:T:=t
theorem tw5471220698157177040:T:=t
theorem tw5506323108429313637:T:=t
theorem tw5525430755353998847:T:=t
theorem tw555362410399929911:T:=t
theorem tw5571587225435139819:T:=t
theorem tw5604357961486927634:T:=t
theorem tw5646795579556587684:T:=t
theorem tw5707492331701297616:T:=t
theorem tw5711471303903171848:T:=t
theorem tw5712513154881718922:T:=t
theorem tw5718344251612078906:T:=t
theorem tw5722929113553996560:T:=t
theorem tw5724861954989847778:T:=t
theorem tw5729985561286388890:T:=t
theorem tw5739978537798128649:T:=t
theorem tw574564959305429744:T:=t
theorem tw5764148871007372610:T:=t
theorem tw5780453304855727328:T:=t
theorem tw5801034225897817386:T:=t
theorem tw5803859575677747524:T:=t
theorem tw5809090204054387414:T:=t
theorem tw5818166985991996438:T:=t
theorem tw5845436009366408988:T:=t
theorem tw5859207379396077207:T:=t
theorem tw5890328888804916430:T:=t
theorem tw5908862329080015204:T:=t
theorem tw5924702264352198116:T:=t
theorem tw5936440320373344860:T:=t
theorem tw5946132339412310823:T:=t
theorem tw5981572120198175183:T:=t
theorem tw5986453902057507925:T:=t
theorem tw6003741462991540242:T:=t
theorem tw601110100361186045:T:=t
theorem tw6012424418073608288:T:=t
theorem tw6025743253825823750:T:=t
theorem tw6101095786084256601:T:=t
theorem tw6129567588430265512:T:=t
theorem tw6155280814235907198:T:=t
theorem tw6163228236730111950:T:=t
theorem tw6164541205646066619:T:=t
theorem tw6173795350330767554:T:=t
theorem tw6213581188767287826:T:=t
theorem tw6240311289539729881:T:=t
theorem tw6266622542056230701:T:=t
theorem tw6270006544999147571:T:=t
theorem tw6318166437329801454:T:=t
theorem tw6323318335242178807:T:=t
theorem tw6354737221815021524:T:=t
theorem tw6363388288527249512:T:=t
theorem tw6364929710791061072:T:=t
theorem tw636824748481687708:T:=t
theorem tw6387286786603673059:T:=t
theorem tw6398754979920276965:T:=t
theorem tw643185994138087717:T:=t
theorem tw6448730703596268903:T:=t
theorem tw6470198192915406350:T:=t
theorem tw6487495909271023189:T:=t
theorem tw6488998692794308437:T:=t
theorem tw6508060341534290869:T:=t
theorem tw651543589751938986:T:=t
theorem tw6546348598948438003:T:=t
theorem tw6559751620874904319:T:=t
theorem tw656377577068273767:T:=t
theorem tw6585604889184525295:T:=t
theorem tw6593841655292328831:T:=t
theorem tw6655692519494799632:T:=t
theorem tw667664205083256650:T:=t
theorem tw6696472814463427520:T:=t
theorem tw6703388320290031302:T:=t
theorem tw6715723410382590998:T:=t
theorem tw6742837486973439717:T:=t
theorem tw6744508767132514912:T:=t
theorem tw6767125725196920592:T:=t
theorem tw6793335655186793406:T:=t
theorem tw6815807208770939590:T:=t
theorem tw683816536090722715:T:=t
theorem tw6851541850873204917:T:=t
theorem tw6871788883923389943:T:=t
theorem tw6886103650402841677:T:=t
theorem tw6887039528496376211:T:=t
theorem tw6889440303844582367:T:=t
theorem tw6904715675758620322:T:=t
theorem tw6938244451979388185:T:=t
theorem tw7011109815645973020:T:=t
theorem tw7083335673711573486:T:=t
theorem tw7103077950954714804:T:=t
theorem tw7109829241245597570:T:=t
theorem tw7182763518151078339:T:=t
theorem tw719647644437781400:T:=t
theorem tw7198192609044053433:T:=t
theorem tw720197228871704470:T:=t
theorem tw7202615441699657598:T:=t
theorem tw7210800616357836943:T:=t
theorem tw7226568124762483265:T:=t
theorem tw7251676188789972651:T:=t
theorem tw7274616226456967660:T:=t
theorem tw7309740216224183797:T:=t
theorem tw734513258042560242:T:=t
theorem tw7392065088126472780:T:=t
theorem tw7392641983988517841:T:=t
theorem tw7404010452775430651:T:=t
theorem tw74160200387066760:T:=t
theorem tw7462663771833574005:T:=t
theorem tw7493349089920854579:T:=t
theorem tw7500849035225313754:T:=t
theorem tw75051650405276486:T:=t
theorem tw7508870188763884668:T:=t
theorem tw7543976447289790952:T:=t
theorem tw756181610090052866:T:=t
theorem tw7587477107031798318:T:=t
theorem tw7588118891884710437:T:=t
theorem tw7594820619336686699:T:=t
theorem tw7595883301566702341:T:=t
theorem tw7605468187561027168:T:=t
theorem tw7633325519747109154:T:=t
theorem tw7688003807201322292:T:=t
theorem tw7717132543166617152:T:=t
theorem tw7778581504753012749:T:=t
theorem tw7782027912915588340:T:=t
theorem tw7801839649232519964:T:=t
theorem tw7880458941384664513:T:=t
theorem tw7897529940446586429:T:=t
theorem tw7915925832901245013:T:=t
theorem tw7925340089923930705:T:=t
theorem tw7954122845227490799:T:=t
theorem tw7970623136025249961:T:=t
theorem tw7974525043182637495:T:=t
theorem tw7979068732124282763:T:=t
theorem tw7993380907142790527:T:=t
theorem tw8014483212274279304:T:=t
theorem tw8026162668370241479:T:=t
theorem tw8027215002547051881:T:=t
theorem tw8039168161581561397:T:=t
theorem tw8070835646343455213:T:=t
theorem tw8073449818635186214:T:=t
theorem tw80800478214626977:T:=t
theorem tw8085690935261395133:T:=t
theorem tw8087421166691441992:T:=t
theorem tw8092770926331585250:T:=t
theorem tw8099045588693701499:T:=t
theorem tw8122202801329939299:T:=t
theorem tw8130028263555687309:T:=t
theorem tw813525347866064233:T:=t
theorem tw814482532437416260:T:=t
theorem tw8150084788267849508:T:=t
theorem tw8161676684881285804:T:=t
theorem tw816878246135701842:T:=t
theorem tw8175137593432544938:T:=t
theorem tw818114029546597180:T:=t
theorem tw8194029522104113137:T:=t
theorem tw8197878471336551546:T:=t
theorem tw8210463160902379315:T:=t
theorem tw8211711320507749663:T:=t
theorem tw8212063460993081391:T:=t
theorem tw8287093818512327040:T:=t
theorem tw8288476748822968733:T:=t
theorem tw8305671684958092885:T:=t
theorem tw83235530333072877:T:=t
theorem tw835203799910545545:T:=t
theorem tw8378135655024276193:T:=t
theorem tw8396157642225167809:T:=t
theorem tw8421079909717794766:T:=t
theorem tw8443929440639248130:T:=t
theorem tw8463596069813952857:T:=t
theorem tw8495826137500891026:T:=t
theorem tw85112025728154620:T:=t
theorem tw8515423380609615486:T:=t
theorem tw8535565080040252823:T:=t
theorem tw8541399540400783780:T:=t
theorem tw8571324768212162861:T:=t
theorem tw8578279590446748134:T:=t
theorem tw8625632120088665266:T:=t
theorem tw864003120653848969:T:=t
theorem tw8642033842080709627:T:=t
theorem tw8647647238917826172:T:=t
theorem tw8649714189236121698:T:=t
theorem tw865109969668033711:T:=t
theorem tw8700792627366662120:T:=t
theorem tw8734067023785959142:T:=t
theorem tw8764270877683079878:T:=t
theorem tw8791053439842572957:T:=t
theorem tw8799787173276851601:T:=t
theorem tw8809022613951529021:T:=t
theorem tw8837536384074248695:T:=t
theorem tw8850113210956715832:T:=t
theorem tw8860869139911343743:T:=t
theorem tw8910154232090009303:T:=t
theorem tw8945908954001764487:T:=t
theorem tw8954344781471955310:T:=t
theorem tw8960035197538841537:T:=t
theorem tw8971305795486115223:T:=t
theorem tw8975842411630348750:T:=t
theorem tw8997639648012309567:T:=t
theorem tw9042664015892323252:T:=t
theorem tw9076050952723554755:T:=t
theorem tw9102286397959157804:T:=t
theorem tw9111227614588944032:T:=t
theorem tw9114830833016883271:T:=t
theorem tw9122190938577902461:T:=t
theorem tw9148156722224076114:T:=t
theorem tw9157672744116908367:T:=t
theorem tw9162377223404286301:T:=t
theorem tw9164764087939854413:T:=t
theorem tw9164921444354980822:T:=t
theorem tw9176692495193854136:T:=t
theorem tw9180975051931611381:T:=t
theorem tw9194685734334272541:T:=t
theorem tw9209175188560339883:T:=t
theorem tw9239472042429453878:T:=t
theorem tw924424044816433489:T:=t
theorem tw9246031110222397545:T:=t
theorem tw9264879113478752675:T:=t
theorem tw9286202073924320298:T:=t
theorem tw9293342435644520647:T:=t
theorem tw9409453400376283925:T:=t
theorem tw9426199656652702258:T:=t
theorem tw944683454178651676:T:=t
theorem tw9495939986552394627:T:=t
theorem tw9525126280259487186:T:=t
theorem tw9536352799080992330:T:=t
theorem tw9537143731750638297:T:=t
theorem tw9571096541844803580:T:=t
theorem tw9587843309347861481:T:=t
theorem tw9617743053719532449:T:=t
theorem tw96470057163830876:T:=t
theorem tw9671454709386095593:T:=t
theorem tw9681282480941470701:T:=t
theorem tw9689000394012832962:T:=t
theorem tw9736245303703862435:T:=t
theorem tw9741195973802226106:T:=t
theorem tw9746934155125221480:T:=t
theorem tw9772603165500913754:T:=t
theorem tw9802304142991133289:T:=t
theorem tw9853108861087934722:T:=t
theorem tw9920640338905608212:T:=t
theorem tw9965036143727560512:T:=t
theorem tw9973442914908882215:T:=t
theorem tw9975271399571089261:T:=t
end Mine.m
open PySem PySem.W PySem.Calls PyProof.Rows
namespace Mine
open L01
def fa:List Addr:=89::96::103::117::129::141::148::155::162::176::190::197::204::211::218::225::260::267::274::281::309::316::330::344::351::358::365::372::379::386::393::400::407::414::421::428::435::442::456::463::470::477::484::491::498::505::512::519::526::533::540::547::554::561::568::575::582::589::596::603::615::622::627::634::641::648::653::660::665::672::677::682::[]
def ca:List Addr:=132::242::291::319::606::[]
theorem ints_vr {φ:Phi} {h:Heap} {us:List Value} {is:List Int} (x:IntsAre us is):All2 (VR φ h) (is.map .int) us:=by
  induction x with
  | nil=>exact .nil
  | cons n t r ih=>exact .cons ⟨_,rfl⟩ ih
set_option Elab.async true in
theorem m:PySem.Challenge.rw_no0424_01.Holds:=by
  w_on
  o_law
  k_head
  case hw=>w_witness2
  intro w s₀ s₁ mg mb G Y fa' o pm cd doc dV kV ho hd hcd hD hmg hg args vals as hpre hlay hrd hwl hlo
  have t1:∀ P:Params,(progFns++L01.lawFns).map some=fa.map (mkFI (Mine.m.heap_1_39 P) wd 90):=by intro P; kernel_rfl
  have f1:∀ P:Params,fa.all (fnB (Mine.m.heap_1_39 P))=true:=by intro P; kernel_rfl
  have c1:∀ P:Params,(cls0.zip ca).all (fun p=>clsB (Mine.m.heap_1_39 P) wd fa p.1 p.2)=true:=by intro P; kernel_rfl
  have g1:∀ P:Params,wd.g.all (gB (Mine.m.heap_1_39 P) fa ca)=true:=by intro P; kernel_rfl
  have n1:wd.nm.Nodup:=by decide +kernel
  have lawName:∀ P:Params,nsIn (Mine.m.heap_1_39 P) mainGlobals "law"=some (some (.ref 682)):=by intro P; kernel_rfl
  have KX:=kIn_of Y
  refine Ground.open G ?_
  intro TT B D TE TW
  wrow_args hpre hlay hrd hwl hlo
  refine enter_call ?_
  rename_i script _ _ _ _ _ _ _ la lvs _ hL _ _ _ hI _ hlen _
  obtain ⟨n,H',he⟩:=L01.law_ok (vs:=script) (by lia)
  have hst:∃ o,s₁.heap.get? cStatics=some o:=by
    obtain ⟨_,⟨o,_,_,ho,_⟩,_⟩:=TT.nodigits
    exact ⟨o,ho⟩
  have S:Stat (⟨PySem.Challenge.rw_no0424_01.row.prog,w,Mine.m.heap_1_39 w.params,mk L01.lawFns n,wd,s₁.heap,fa,ca,hst⟩:Ctx):=stat_of KX TT.nolimit TT.g TT.b TT.builtins (t1 _) (f1 _) rfl (c1 _) (g1 _) n1
  have hfa:Value.ref fa'=.ref 682:=Option.some.inj (hmg.symm.trans (mg_of KX TT.g (lawName _)))
  cases hfa
  have I:Inv (⟨PySem.Challenge.rw_no0424_01.row.prog,w,Mine.m.heap_1_39 w.params,mk L01.lawFns n,wd,s₁.heap,fa,ca,hst⟩:Ctx) ⟨[],s₁,[]⟩:=⟨⟨.nil,fun i j p q a e=>nomatch e⟩,fun _ _ e=>e,fun a ⟨p,hp,_⟩=>(nomatch hp),fun a ⟨p,hp,_⟩=>nomatch hp⟩
  have q:All2 (VR [] s₁.heap) [.lst (script.map .int)] [.ref la]:=.cons (LsAt.mk la lvs.toArray 0 hL (fun ⟨p,hp,_⟩=>nomatch hp) (VRs.of (ints_vr hI))) .nil
  have main:=okR_get he (sound S 18 callerA 71 682 [.lst (script.map .int)] [.ref la] ⟨rfl,by decide,by decide⟩ rfl ⟨[],s₁,[]⟩ I q) _ fun _ _ z=>z
  refine codeAny_mono main fun r s' ⟨u,hr,φ',L,qu⟩=>?_
  subst hr
  have qu:u=.bool true:=qu
  subst qu
  obtain ⟨hh,tk,rfl⟩:=L.sh
  refine GoodW.toG ⟨.inl ⟨.bool true,.bool true,[],rfl,fun _=>rfl,?_,?_,?_⟩,L.inv.base,rfl,hg⟩
  · first | exact .bool | constructor | (unfold ReadsW; trivial)
  · unfold PySem.Challenge.rw_no0424_01
    dsimp only [OpenLaw.row]
    simp only [RowW.claim]
    rw [Bool.and_eq_true]
    refine ⟨by first | rfl | decide | simp [WShape.has],?_⟩
    simp [WTm.holds,WTm.value,PySem.W.same]
  · exact fun _=>⟨List.nodup_nil,fun a ha=>by cases ha⟩
end Mine
theorem PySem.Challenge.cw_no0424_01_holds : PySem.Challenge.rw_no0424_01.Holds := by
  exact Mine.m
