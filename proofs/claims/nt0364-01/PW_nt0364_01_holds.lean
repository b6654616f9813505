import PyProof.Rows.All
import Wide.All
import OpenK.AllK
import Wide.FinOn
import PySem.Challenge.RW_nt0364_01
set_option genSizeOf false
set_option genInjectivity false
set_option tactic.hygienic false
set_option Elab.async false
set_option autoImplicit false
set_option linter.unusedVariables false
set_option linter.unusedSectionVars false
set_option maxRecDepth 100000
noncomputable section
namespace Mine
theorem via {G : Prop} (h : ∀ R : Prop, (G → R) → R) : G := h G id
section
set_option backward.match.sparseCases false
open PySem
inductive Fld where
  | kind | text | depth | frames | steps | loops | ic | ml | left | waiting
  deriving DecidableEq
inductive Cls where
  | fail | limits | pcode | search
  deriving DecidableEq
inductive Op2 where
  | add | sub | mul | fdiv | mod
  deriving DecidableEq
inductive OpC where
  | eq | ne | lt | le | gt | ge | is | isNot | isIn
  deriving DecidableEq
inductive Bi where
  | len | abs | int | ord | chr | any | isinstance | list | tuple | range | zip | enumerate | min
  deriving DecidableEq
inductive Me where
  | append | pop | extend | upper | isalnum | join
  deriving DecidableEq
inductive AV where
  | none | bool (b:Bool) | int (i:Int) | str (cs:List Nat)
  | tup (xs:List AV) | lst (xs:List AV) | row (xs:List AV)
  | dct (kvs:List (Int×AV))
  | obj (i:Nat)
  | fn (k:Nat)
  | cls (c:Cls)
  | bi (b:Bi)
  | clo (k:Nat) (caps:List (Nat×AV))
inductive AObj where
  | list (xs:List AV)
  | inst (c:Cls) (fs:Fld→Option AV)
noncomputable abbrev AH:=List AObj
noncomputable abbrev AM (α:Type):=AH→Option (α×AH)
noncomputable abbrev AF:=List (Option AV)
noncomputable def zH {α:Type}(a:α):AM α:=fun H=>some (a,H)
noncomputable def zZ {α β:Type}(m:AM α)(f:α→AM β):AM β:=fun H=>match m H with
  | some p=>f p.1 p.2
  | none=>none
noncomputable def afail {α:Type}:AM α:=fun q_=>none
noncomputable def jW {α:Type}(o:Option α):AM α:=fun H=>match o with
  | some a=>some (a,H)
  | none=>none
noncomputable def wH:AV→Option Bool
  | .bool b=>some b
  | _=>none
noncomputable def wY:AV→Option Int
  | .int i=>some i
  | _=>none
noncomputable def toStr:AV→Option (List Nat)
  | .str s=>some s
  | _=>none
noncomputable def toTup:AV→Option (List AV)
  | .tup xs=>some xs
  | _=>none
noncomputable def toLst:AV→Option (List AV)
  | .lst xs=>some xs
  | _=>none
noncomputable def toObj:AV→Option Nat
  | .obj n=>some n
  | _=>none
noncomputable def aif (b:Prop) [Decidable b]{α:Type}(x:α):Option α:=if b then some x else none
noncomputable def AV.isNone:AV→Bool
  | .none=>true
  | _=>false
noncomputable def sames (f:AV→AV→Bool):List AV→List AV→Bool
  | [],[]=>true
  | x::xs,y::ys=>f x y&&sames f xs ys
  | _,_=>false
noncomputable def same:Nat→AV→AV→Bool
  | 0,_,_=>false
  | n+1,x,y=>match x with
    | .none=>y.isNone
    | .bool a=>decide (wH y=some a)
    | .int a=>decide (wY y=some a)
    | .str a=>decide (toStr y=some a)
    | .tup a=>(toTup y).any (sames (same n) a)
    | .lst a=>(toLst y).any (sames (same n) a)
    | _=>false
noncomputable def aeq (x y:AV):Option Bool:=match x with
  | .bool a=>(wH y).map fun b=>a==b
  | .int a=>(wY y).map fun b=>decide (a=b)
  | .str a=>(toStr y).map fun b=>decide (a=b)
  | .none=>aif (y.isNone=true) true
  | .tup a=>match y with
    | .str _=>some false
    | .tup b=>aif (same 5 (.tup a) (.tup b)=true) true
    | _=>none
  | .lst a=>(toLst y).bind fun l=>aif (l.isEmpty=true) a.isEmpty
  | _=>none
noncomputable def ints?:List AV→Option (List Int)
  | []=>some []
  | .int i::r=>(ints? r).map (i::·)
  | _=>none
noncomputable def strs?:List AV→Option (List (List Nat))
  | []=>some []
  | .str s::r=>(strs? r).map (s::·)
  | _=>none
noncomputable def inInt (i:Int):AV→Option Bool
  | .lst xs=>(ints? xs).map fun l=>l.any fun j=>decide (i=j)
  | .tup xs=>(ints? xs).map fun l=>l.any fun j=>decide (i=j)
  | .dct kvs=>some (kvs.any fun p=>decide (i=p.1))
  | _=>none
noncomputable def inStr (s:List Nat):AV→Option Bool
  | .tup xs=>(strs? xs).map fun l=>l.any fun t=>decide (s=t)
  | .str t=>match s with
    | [c]=>some (t.any fun d=>decide (c=d))
    | _=>none
  | _=>none
noncomputable def ain (x y:AV):Option Bool:=match x with
  | .int i=>inInt i y
  | .str s=>inStr s y
  | _=>none
noncomputable def cmpI (f:Int→Int→Bool)(x y:AV):Option Bool:=(wY x).bind fun a=>(wY y).map fun b=>f a b
noncomputable def JW (o:OpC)(x y:AV):Option Bool:=match o with
  | .eq=>aeq x y
  | .ne=>(aeq x y).map (!·)
  | .lt=>cmpI (fun a b=>decide (a<b)) x y
  | .le=>cmpI (fun a b=>decide (a≤b)) x y
  | .gt=>cmpI (fun a b=>decide (b<a)) x y
  | .ge=>cmpI (fun a b=>decide (b≤a)) x y
  | .is=>aif (y.isNone=true) x.isNone
  | .isNot=>aif (y.isNone=true) (!x.isNone)
  | .isIn=>ain x y
noncomputable def bits:Int:=2 ^ 62
noncomputable def small (i:Int):Bool:=decide (-bits<i)&&decide (i<bits)
noncomputable def line:Nat:=2 ^ 20
noncomputable def rep {α:Type}(xs:List α)(n:Int):List α:=(List.replicate n.toNat xs).flatten
noncomputable def addA (x y:AV):Option AV:=match x with
  | .int a=>(wY y).map fun b => .int (a+b)
  | .str a=>(toStr y).bind fun b=>aif (a.length+b.length≤line) (.str (a++b))
  | .tup a=>(toTup y).bind fun b=>aif (a.length+b.length≤line) (.tup (a++b))
  | .lst a=>(toLst y).bind fun b=>aif (a.length+b.length≤line) (.lst (a++b))
  | _=>none
noncomputable def few (a:Nat)(n:Int):Bool:=decide (a≤8)&&decide (n≤1000)&&decide (0≤n)
noncomputable def mulA (x y:AV):Option AV:=(wY y).bind fun n=>match x with
  | .int a=>aif (-(2 ^ 63)<n∧n<2 ^ 63) (.int (a * n))
  | .tup a=>aif (few a.length n=true) (.tup (rep a n))
  | .lst a=>aif (few a.length n=true) (.lst (rep a n))
  | .str a=>aif (few a.length n=true) (.str (rep a n))
  | _=>none
noncomputable def intOp (f:Int→Int→Option Int)(x y:AV):Option AV:=(wY x).bind fun a=>(wY y).bind fun b=>(f a b).map .int
noncomputable def abin (o:Op2)(x y:AV):Option AV:=match o with
  | .add=>addA x y
  | .sub=>intOp (fun a b=>some (a-b)) x y
  | .mul=>mulA x y
  | .fdiv=>intOp (fun a b=>aif (0<b∧b<1000000000) (a / b)) x y
  | .mod=>intOp (fun a b=>aif (0<b) (a % b)) x y
noncomputable def at? {α:Type}(xs:List α)(i:Int):Option α :=
  if 0≤i then(if i<2 ^ 62 then xs[i.toNat]? else none) else if -(xs.length:Int)≤i ∧ -1000≤i then xs[(i+xs.length).toNat]? else none
noncomputable def listAt (H:AH)(n:Nat):Option (List AV):=match H[n]? with
  | some (.list xs)=>some xs
  | _=>none
noncomputable def asub (H:AH)(x k:AV):Option AV:=(wY k).bind fun i=>match x with
  | .tup xs=>at? xs i
  | .lst xs=>at? xs i
  | .str cs=>if 0≤i then(at? cs i).map fun c => .str [c] else none
  | .dct kvs=>(kvs.find? fun p=>decide (i=p.1)).map (·.2)
  | .obj n=>(listAt H n).bind fun xs=>at? xs i
  | _=>none
noncomputable def part:AV→Option (Option Int)
  | .none=>some none
  | .int i=>if -1≤i&&decide (i<2 ^ 62) then some (some i) else none
  | _=>none
noncomputable def clip (n:Nat)(d:Nat)(p:Option Int):Nat:=p.elim d (clipAt n)
noncomputable def cut {α:Type}(xs:List α)(lo hi:Option Int):List α :=
  (xs.take (clip xs.length xs.length hi)).drop (clip xs.length 0 lo)
noncomputable def aslc (H:AH)(v lo hi:AV):Option AV:=(part lo).bind fun l=>(part hi).bind fun h=>match v with
  | .tup xs=>aif (xs.length≤line) (.tup (cut xs l h))
  | .lst xs=>aif (xs.length≤line) (.lst (cut xs l h))
  | .row xs=>aif (xs.length≤line) (.lst (cut xs l h))
  | .str cs=>aif (cs.length≤line) (.str (cut cs l h))
  | .obj n=>(listAt H n).bind fun xs=>aif (xs.length≤line) (.lst (cut xs l h))
  | _=>none
noncomputable def upperOf (c:Nat):Nat:=if 97≤c&&c≤122 then c-32 else c
noncomputable def alnum (c:Nat):Bool:=(48≤c&&c≤57)||(65≤c&&c≤90)||(97≤c&&c≤122)
noncomputable def bools?:List AV→Option (List Bool)
  | []=>some []
  | .bool b::r=>(bools? r).map (b::·)
  | _=>none
noncomputable def one:List AV→Option AV
  | [x]=>some x
  | _=>none
noncomputable def two:List AV→Option (AV×AV)
  | [x,y]=>some (x,y)
  | _=>none
noncomputable def lenA (H:AH):AV→Option Nat
  | .tup xs=>some xs.length
  | .lst xs=>some xs.length
  | .str cs=>some cs.length
  | .obj n=>(listAt H n).map (·.length)
  | _=>none
noncomputable def isTupA:AV→Option Bool
  | .tup _=>some true
  | .none=>some false
  | .bool _=>some false
  | .int _=>some false
  | .str _=>some false
  | _=>none
noncomputable def intA:AV→Option Int
  | .int i=>some i
  | .bool b=>some (if b then 1 else 0)
  | _=>none
noncomputable def ordA:List Nat→Option Nat
  | [c]=>some c
  | _=>none
noncomputable def isTupleTy:AV→Bool
  | .bi .tuple=>true
  | _=>false
noncomputable def abi (H:AH)(b:Bi)(xs:List AV):Option AV:=match b with
  | .len=>(one xs).bind fun x=>(lenA H x).bind fun n=>aif (n≤line) (.int n)
  | .abs=>(one xs).bind fun x=>(wY x).map fun i => .int i.natAbs
  | .int=>(one xs).bind fun x=>(intA x).map .int
  | .ord=>(one xs).bind fun x=>(toStr x).bind fun s=>(ordA s).map fun c:Nat=>AV.int (c:Int)
  | .chr=>(one xs).bind fun x=>(wY x).bind fun i=>aif (0≤i∧i<55296) (.str [i.toNat])
  | .any=>(one xs).bind fun x=>(toLst x).bind fun l=>(bools? l).map fun l => .bool (l.any id)
  | .isinstance=>(two xs).bind fun p=>aif (isTupleTy p.2=true) () |>.bind fun q_=>(isTupA p.1).map .bool
  | .list=>(one xs).bind fun x=>(toTup x).bind fun l=>aif (l.length≤line) (.lst l)
  | .tuple=>(one xs).bind fun x=>(toLst x).bind fun l=>aif (l.length≤line) (.tup l)
  | .min=>(two xs).bind fun p=>(wY p.1).bind fun a=>(wY p.2).map fun b => .int (if b<a then b else a)
  | _=>none
noncomputable def setObj (H:AH)(n:Nat)(o:AObj):AH:=H.set n o
noncomputable def alist (x:AV):AM (Nat×List AV):=fun H=>(toObj x).bind fun n=>(listAt H n).map fun xs=>((n,xs),H)
noncomputable def aputL (n:Nat)(xs:List AV):AM Unit:=fun H=>some ((),setObj H n (.list xs))
noncomputable def ame (m:Me)(x:AV)(as:List AV):AM AV:=match m with
  | .append=>zZ (jW (one as)) fun v=>zZ (alist x) fun p=>zZ (jW (aif (p.2.length<line) ())) fun q_=>zZ (aputL p.1 (p.2++[v])) fun q_=>zH .none
  | .pop=>zZ (jW (aif (as=[]) ())) fun q_=>zZ (alist x) fun p=>zZ (jW p.2.getLast?) fun v=>zZ (jW (aif (p.2.length≤line) ())) fun q_=>zZ (aputL p.1 p.2.dropLast) fun q_=>zH v
  | .extend=>zZ (jW (one as)) fun v=>zZ (jW (toTup v)) fun ys=>zZ (alist x) fun p=>zZ (jW (aif (p.2.length+ys.length<line) ())) fun q_=>zZ (aputL p.1 (p.2++ys)) fun q_=>zH .none
  | .upper=>zZ (jW (aif (as=[]) ())) fun q_=>zZ (jW (toStr x)) fun cs=>zZ (jW (aif ((cs.all (· < 128)&&decide (cs.length≤1))=true) ())) fun q_=>zH (.str (cs.map upperOf))
  | .isalnum=>zZ (jW (aif (as=[]) ())) fun q_=>zZ (jW (toStr x)) fun cs=>zZ (jW (ordA cs)) fun c=>zZ (jW (aif (c<128) ())) fun q_=>zH (.bool (alnum c))
  | .join=>zZ (jW (aif (toStr x=some []) ())) fun q_=>zZ (jW (one as)) fun v=>zZ (jW (toLst v)) fun xs=>zZ (jW (strs? xs)) fun l=>zZ (jW (aif (l.flatten.length≤line) ())) fun q_=>zH (.str l.flatten)
noncomputable def ofStr:Me→Bool
  | .upper=>true
  | .isalnum=>true
  | .join=>true
  | _=>false
noncomputable def ofList:Me→Bool
  | .append=>true
  | .pop=>true
  | .extend=>true
  | _=>false
noncomputable def amty (m:Me)(x:AV):AM Unit:=if ofStr m then zZ (jW (toStr x)) fun q_=>zH () else if ofList m then zZ (alist x) fun q_=>zH () else afail
inductive Flo where
  | next | ret (v:AV)
structure Glo where
  val:Nat→Option AV
  mth:Cls→Nat→Option Nat
  ini:Cls→Option Nat
noncomputable def capsOf (F:AF):List (Nat×Nat)→Option (List (Nat×AV))
  | []=>some []
  | (o,i)::r=>match F[o]?,capsOf F r with
    | some (some v),some l=>some ((i,v)::l)
    | _,_=>none
noncomputable def putCaps (F:AF):List (Nat×AV)→AF
  | []=>F
  | (i,v)::r=>putCaps (F.set i (some v)) r
noncomputable def frameOf (names np:Nat)(args:List AV)(caps:List (Nat×AV)):Option AF :=
  if args.length=np then some (putCaps ((args.map some)++List.replicate (names-np) none) caps) else none
section
variable (G:Glo)(call:AV→List AV→AM AV)(W:Nat)
noncomputable def aiterOf:AV→Option (List AV)
  | .tup xs=>some xs
  | .lst xs=>some xs
  | .str cs=>some (cs.map fun c => .str [c])
  | .dct kvs=>if decide (kvs.map (·.1)).Nodup then some (kvs.map fun p => .int p.1) else none
  | _=>none
noncomputable def ZC (a b:Int):List AV:=(List.range (b-a).toNat).map fun i:Nat => .int (a+(i:Int))
noncomputable def enumOf (a:List AV):List AV:=a.zipIdx.map fun p => .tup [.int p.2,p.1]
noncomputable def zipOf (a b:List AV):List AV:=(a.zip b).map fun p => .tup [p.1,p.2]
end
noncomputable def asets:List Nat→List AV→AF→AF
  | i::is,x::xs,F=>asets is xs (F.set i (some x))
  | _,_,F=>F
noncomputable def acomp (f:AV→AM (Option AV)):List AV→AM (List AV)
  | []=>zH []
  | x::r=>zZ (f x) fun o=>zZ (acomp f r) fun l=>zH (match o with
    | some v=>v::l
    | none=>l)
noncomputable def ZU (k:AF→AM (Flo×AF))(p:Flo×AF):AM (Flo×AF):=@Flo.rec (fun q_=>AM (Flo×AF)) (k p.2) (fun v=>zH (.ret v,p.2)) p.1
noncomputable def Flo.val:Flo→AV
  | .next => .none
  | .ret v=>v
noncomputable def afor (f:AV→AF→AM (Flo×AF))(xs:List AV):AF→AM (Flo×AF):=@List.rec AV (fun q_=>AF→AM (Flo×AF)) (fun F=>zH (.next,F)) (fun x q_ ih F=>zZ (f x F) fun p=>ZU ih p) xs
noncomputable def awhile (t:AF→AM Bool)(f:AF→AM (Flo×AF))(n:Nat):AF→AM (Flo×AF):=@Nat.rec (fun q_=>AF→AM (Flo×AF)) (fun q_=>afail) (fun q_ ih F=>zZ (t F) fun b=>cond b (zZ (f F) fun p=>ZU ih p) (zH (.next,F))) n
theorem awhile_succ {t:AF→AM Bool}{f:AF→AM (Flo×AF)}{n:Nat}{F:AF}:awhile t f (n+1) F=zZ (t F) fun b=>cond b (zZ (f F) fun p=>ZU (awhile t f n) p) (zH (.next,F)):=rfl
theorem afor_cons {f:AV→AF→AM (Flo×AF)}{x:AV}{r:List AV}{F:AF}:afor f (x::r) F=zZ (f x F) fun p=>ZU (afor f r) p:=rfl
noncomputable def nth (F:AF)(i:Nat):Option AV:=@List.rec (Option AV) (fun q_=>Nat→Option AV) (fun q_=>none) (fun a q_ ih i=>@Nat.rec (fun q_=>Option AV) a (fun j q_=>ih j) i) F i
noncomputable def setN (F:AF)(i:Nat)(v:Option AV):AF:=@List.rec (Option AV) (fun q_=>Nat→AF) (fun q_=>[]) (fun a r ih i=>@Nat.rec (fun q_=>AF) (v::r) (fun j q_=>a::ih j) i) F i
theorem nth_eq:∀ (F:AF)(i:Nat),nth F i=F[i]?.join
  | [],_=>rfl
  | _::_,0=>rfl
  | _::F,i+1=>nth_eq F i
theorem setN_eq (v:Option AV):∀ (F:AF)(i:Nat),setN F i v=F.set i v
  | [],_=>rfl
  | _::_,0=>rfl
  | a::F,i+1=>congrArg (a::·) (setN_eq v F i)
noncomputable def aforL (n:Nat)(f:AV→AF→AM (Flo×AF)):Nat→Nat→AF→AM (Flo×AF)
  | 0,_,_=>afail
  | m+1,k,F=>zZ (alist (.obj n)) fun q=>match q.2[k]? with
    | some x=>zZ (f x F) fun p=>ZU (aforL n f m (k+1)) p
    | none=>zH (.next,F)
noncomputable def instAt (H:AH)(n:Nat):Option (Cls×(Fld→Option AV)):=match H[n]? with
  | some (.inst c fs)=>if c = .fail then none else some (c,fs)
  | _=>none
noncomputable def ainst (x:AV):AM (Nat×Cls×(Fld→Option AV)):=fun H=>(toObj x).bind fun n=>(instAt H n).map fun p=>((n,p),H)
noncomputable def aputI (n:Nat)(c:Cls)(fs:Fld→Option AV):AM Unit:=fun H=>some ((),setObj H n (.inst c fs))
noncomputable def agetA (v:AV)(f:Fld):AM AV:=zZ (ainst v) fun p=>jW (p.2.2 f)
noncomputable def asetA (v:AV)(f:Fld)(x:AV):AM Unit:=zZ (ainst v) fun p=>aputI p.1 p.2.1 fun g=>if g=f then some x else p.2.2 g
noncomputable def asetI (v:AV)(k:AV)(x:AV):AM Unit:=zZ (jW (wY k)) fun i=>zZ (alist v) fun p=>zZ (jW (aif (0≤i∧i<(p.2.length:Int)∧i<2 ^ 62) ())) fun q_=>aputL p.1 (p.2.set i.toNat x)
noncomputable def anewL (xs:List AV):AM AV:=fun H=>some (.obj H.length,H++[.list xs])
noncomputable def amk (mu:Bool)(xs:List AV):AM AV:=if mu then anewL xs else zH (.lst xs)
noncomputable def aclsOf (v:AV):AM Cls:=zZ (ainst v) fun p=>zH p.2.1
section
variable (G:Glo)(call:AV→List AV→AM AV)(W:Nat)
noncomputable def aread (f:AH→Option AV):AM AV:=fun H=>(f H).map fun v=>(v,H)
noncomputable def acallB (f:AV)(args:List AV):AM AV:=match f with
  | .bi b=>aread fun H=>abi H b args
  | .fn _=>call f args
  | .clo _ _=>call f args
  | .cls c=>if c = .limits∧args≠[] then afail else call f args
  | _=>afail
end
noncomputable def anewI (c:Cls):AM AV:=fun H=>some (.obj H.length,H++[.inst c fun q_=>none])
noncomputable def iniArgs:Cls→List AV→List AV
  | .limits,[]=>[.int 40,.int 200,.int (10 ^ 9),.int (10 ^ 6)]
  | .limits,[v]=>[.int 40,.int 200,v,.int (10 ^ 6)]
  | _,xs=>xs
end
section
set_option backward.match.sparseCases false
open PySem
theorem bad {P:Prop}(h:false=true):P:=Bool.noConfusion h
theorem dite_i {c:Prop}{d:Decidable c}{f:c→Bool}(h:(if h:c then f h else false)=true):∃ h:c,f h=true:=by
  cases d with
  | isTrue q=>exact⟨q,h⟩
  | isFalse q=>exact bad h
noncomputable def onBoolOp (f:BoolOp→(List Expr)→Pos→Bool)(x:Expr):Bool:=if h:x.ctorIdx=0 then Expr.BoolOp.elim (motive_1:=fun q_=>Bool) x h f else false
theorem onBoolOp_i {f:BoolOp→(List Expr)→Pos→Bool}{x:Expr}(h:onBoolOp f x=true):∃ a0 a1 a2,x=Expr.BoolOp a0 a1 a2∧f a0 a1 a2=true:=by
  obtain⟨hi,h⟩:=dite_i h
  exact Expr.BoolOp.elim (motive_1:=fun y=>∀ hi:y.ctorIdx=0,Expr.BoolOp.elim (motive_1:=fun q_=>Bool) y hi f=true→∃ a0 a1 a2,y=Expr.BoolOp a0 a1 a2∧f a0 a1 a2=true) x hi (fun a0 a1 a2 q_ h=>⟨a0,a1,a2,rfl,h⟩) hi h
noncomputable def onBinOp (f:Expr→Operator→Expr→Pos→Bool)(x:Expr):Bool:=if h:x.ctorIdx=2 then Expr.BinOp.elim (motive_1:=fun q_=>Bool) x h f else false
theorem onBinOp_i {f:Expr→Operator→Expr→Pos→Bool}{x:Expr}(h:onBinOp f x=true):∃ a0 a1 a2 a3,x=Expr.BinOp a0 a1 a2 a3∧f a0 a1 a2 a3=true:=by
  obtain⟨hi,h⟩:=dite_i h
  exact Expr.BinOp.elim (motive_1:=fun y=>∀ hi:y.ctorIdx=2,Expr.BinOp.elim (motive_1:=fun q_=>Bool) y hi f=true→∃ a0 a1 a2 a3,y=Expr.BinOp a0 a1 a2 a3∧f a0 a1 a2 a3=true) x hi (fun a0 a1 a2 a3 q_ h=>⟨a0,a1,a2,a3,rfl,h⟩) hi h
noncomputable def onUnaryOp (f:UnaryOp→Expr→Pos→Bool)(x:Expr):Bool:=if h:x.ctorIdx=3 then Expr.UnaryOp.elim (motive_1:=fun q_=>Bool) x h f else false
theorem onUnaryOp_i {f:UnaryOp→Expr→Pos→Bool}{x:Expr}(h:onUnaryOp f x=true):∃ a0 a1 a2,x=Expr.UnaryOp a0 a1 a2∧f a0 a1 a2=true:=by
  obtain⟨hi,h⟩:=dite_i h
  exact Expr.UnaryOp.elim (motive_1:=fun y=>∀ hi:y.ctorIdx=3,Expr.UnaryOp.elim (motive_1:=fun q_=>Bool) y hi f=true→∃ a0 a1 a2,y=Expr.UnaryOp a0 a1 a2∧f a0 a1 a2=true) x hi (fun a0 a1 a2 q_ h=>⟨a0,a1,a2,rfl,h⟩) hi h
noncomputable def onLambda (f:Arguments→Expr→Scope→Pos→Bool)(x:Expr):Bool:=if h:x.ctorIdx=4 then Expr.Lambda.elim (motive_1:=fun q_=>Bool) x h f else false
theorem onLambda_i {f:Arguments→Expr→Scope→Pos→Bool}{x:Expr}(h:onLambda f x=true):∃ a0 a1 a2 a3,x=Expr.Lambda a0 a1 a2 a3∧f a0 a1 a2 a3=true:=by
  obtain⟨hi,h⟩:=dite_i h
  exact Expr.Lambda.elim (motive_1:=fun y=>∀ hi:y.ctorIdx=4,Expr.Lambda.elim (motive_1:=fun q_=>Bool) y hi f=true→∃ a0 a1 a2 a3,y=Expr.Lambda a0 a1 a2 a3∧f a0 a1 a2 a3=true) x hi (fun a0 a1 a2 a3 q_ h=>⟨a0,a1,a2,a3,rfl,h⟩) hi h
noncomputable def onIfExp (f:Expr→Expr→Expr→Pos→Bool)(x:Expr):Bool:=if h:x.ctorIdx=5 then Expr.IfExp.elim (motive_1:=fun q_=>Bool) x h f else false
theorem onIfExp_i {f:Expr→Expr→Expr→Pos→Bool}{x:Expr}(h:onIfExp f x=true):∃ a0 a1 a2 a3,x=Expr.IfExp a0 a1 a2 a3∧f a0 a1 a2 a3=true:=by
  obtain⟨hi,h⟩:=dite_i h
  exact Expr.IfExp.elim (motive_1:=fun y=>∀ hi:y.ctorIdx=5,Expr.IfExp.elim (motive_1:=fun q_=>Bool) y hi f=true→∃ a0 a1 a2 a3,y=Expr.IfExp a0 a1 a2 a3∧f a0 a1 a2 a3=true) x hi (fun a0 a1 a2 a3 q_ h=>⟨a0,a1,a2,a3,rfl,h⟩) hi h
noncomputable def onDict (f:(List (Option Expr))→(List Expr)→Pos→Bool)(x:Expr):Bool:=if h:x.ctorIdx=6 then Expr.Dict.elim (motive_1:=fun q_=>Bool) x h f else false
theorem onDict_i {f:(List (Option Expr))→(List Expr)→Pos→Bool}{x:Expr}(h:onDict f x=true):∃ a0 a1 a2,x=Expr.Dict a0 a1 a2∧f a0 a1 a2=true:=by
  obtain⟨hi,h⟩:=dite_i h
  exact Expr.Dict.elim (motive_1:=fun y=>∀ hi:y.ctorIdx=6,Expr.Dict.elim (motive_1:=fun q_=>Bool) y hi f=true→∃ a0 a1 a2,y=Expr.Dict a0 a1 a2∧f a0 a1 a2=true) x hi (fun a0 a1 a2 q_ h=>⟨a0,a1,a2,rfl,h⟩) hi h
@[elab_as_elim] theorem onDict_e {f:(List (Option Expr))→(List Expr)→Pos→Bool} {x:Expr} {C:Expr→Prop} (h:onDict f x=true) (k:∀ a0 a1 a2,f a0 a1 a2=true→C (Expr.Dict a0 a1 a2)):C x:=by
  obtain⟨a0,a1,a2,rfl,h⟩:=onDict_i h
  exact k a0 a1 a2 h
noncomputable def onSet (f:(List Expr)→Nat→Pos→Bool)(x:Expr):Bool:=if h:x.ctorIdx=7 then Expr.Set.elim (motive_1:=fun q_=>Bool) x h f else false
noncomputable def onListComp (f:Expr→(List Comprehension)→Scope→Pos→Bool)(x:Expr):Bool:=if h:x.ctorIdx=8 then Expr.ListComp.elim (motive_1:=fun q_=>Bool) x h f else false
theorem onListComp_i {f:Expr→(List Comprehension)→Scope→Pos→Bool}{x:Expr}(h:onListComp f x=true):∃ a0 a1 a2 a3,x=Expr.ListComp a0 a1 a2 a3∧f a0 a1 a2 a3=true:=by
  obtain⟨hi,h⟩:=dite_i h
  exact Expr.ListComp.elim (motive_1:=fun y=>∀ hi:y.ctorIdx=8,Expr.ListComp.elim (motive_1:=fun q_=>Bool) y hi f=true→∃ a0 a1 a2 a3,y=Expr.ListComp a0 a1 a2 a3∧f a0 a1 a2 a3=true) x hi (fun a0 a1 a2 a3 q_ h=>⟨a0,a1,a2,a3,rfl,h⟩) hi h
noncomputable def onSetComp (f:Expr→(List Comprehension)→Scope→Pos→Bool)(x:Expr):Bool:=if h:x.ctorIdx=9 then Expr.SetComp.elim (motive_1:=fun q_=>Bool) x h f else false
noncomputable def onDictComp (f:Expr→Expr→(List Comprehension)→Scope→Pos→Bool)(x:Expr):Bool:=if h:x.ctorIdx=10 then Expr.DictComp.elim (motive_1:=fun q_=>Bool) x h f else false
noncomputable def onCompare (f:Expr→(List CmpOp)→(List Expr)→Pos→Bool)(x:Expr):Bool:=if h:x.ctorIdx=15 then Expr.Compare.elim (motive_1:=fun q_=>Bool) x h f else false
theorem onCompare_i {f:Expr→(List CmpOp)→(List Expr)→Pos→Bool}{x:Expr}(h:onCompare f x=true):∃ a0 a1 a2 a3,x=Expr.Compare a0 a1 a2 a3∧f a0 a1 a2 a3=true:=by
  obtain⟨hi,h⟩:=dite_i h
  exact Expr.Compare.elim (motive_1:=fun y=>∀ hi:y.ctorIdx=15,Expr.Compare.elim (motive_1:=fun q_=>Bool) y hi f=true→∃ a0 a1 a2 a3,y=Expr.Compare a0 a1 a2 a3∧f a0 a1 a2 a3=true) x hi (fun a0 a1 a2 a3 q_ h=>⟨a0,a1,a2,a3,rfl,h⟩) hi h
noncomputable def onCall (f:Expr→(List Expr)→(List Keyword)→Pos→Bool)(x:Expr):Bool:=if h:x.ctorIdx=16 then Expr.Call.elim (motive_1:=fun q_=>Bool) x h f else false
theorem onCall_i {f:Expr→(List Expr)→(List Keyword)→Pos→Bool}{x:Expr}(h:onCall f x=true):∃ a0 a1 a2 a3,x=Expr.Call a0 a1 a2 a3∧f a0 a1 a2 a3=true:=by
  obtain⟨hi,h⟩:=dite_i h
  exact Expr.Call.elim (motive_1:=fun y=>∀ hi:y.ctorIdx=16,Expr.Call.elim (motive_1:=fun q_=>Bool) y hi f=true→∃ a0 a1 a2 a3,y=Expr.Call a0 a1 a2 a3∧f a0 a1 a2 a3=true) x hi (fun a0 a1 a2 a3 q_ h=>⟨a0,a1,a2,a3,rfl,h⟩) hi h
noncomputable def onConstant (f:Const→Nat→Pos→Bool)(x:Expr):Bool:=if h:x.ctorIdx=19 then Expr.Constant.elim (motive_1:=fun q_=>Bool) x h f else false
theorem onConstant_i {f:Const→Nat→Pos→Bool}{x:Expr}(h:onConstant f x=true):∃ a0 a1 a2,x=Expr.Constant a0 a1 a2∧f a0 a1 a2=true:=by
  obtain⟨hi,h⟩:=dite_i h
  exact Expr.Constant.elim (motive_1:=fun y=>∀ hi:y.ctorIdx=19,Expr.Constant.elim (motive_1:=fun q_=>Bool) y hi f=true→∃ a0 a1 a2,y=Expr.Constant a0 a1 a2∧f a0 a1 a2=true) x hi (fun a0 a1 a2 q_ h=>⟨a0,a1,a2,rfl,h⟩) hi h
@[elab_as_elim] theorem onConstant_e {f:Const→Nat→Pos→Bool} {x:Expr} {C:Expr→Prop} (h:onConstant f x=true) (k:∀ a0 a1 a2,f a0 a1 a2=true→C (Expr.Constant a0 a1 a2)):C x:=by
  obtain⟨a0,a1,a2,rfl,h⟩:=onConstant_i h
  exact k a0 a1 a2 h
noncomputable def onAttribute (f:Expr→Str→Pos→Bool)(x:Expr):Bool:=if h:x.ctorIdx=20 then Expr.Attribute.elim (motive_1:=fun q_=>Bool) x h f else false
theorem onAttribute_i {f:Expr→Str→Pos→Bool}{x:Expr}(h:onAttribute f x=true):∃ a0 a1 a2,x=Expr.Attribute a0 a1 a2∧f a0 a1 a2=true:=by
  obtain⟨hi,h⟩:=dite_i h
  exact Expr.Attribute.elim (motive_1:=fun y=>∀ hi:y.ctorIdx=20,Expr.Attribute.elim (motive_1:=fun q_=>Bool) y hi f=true→∃ a0 a1 a2,y=Expr.Attribute a0 a1 a2∧f a0 a1 a2=true) x hi (fun a0 a1 a2 q_ h=>⟨a0,a1,a2,rfl,h⟩) hi h
@[elab_as_elim] theorem onAttribute_e {f:Expr→Str→Pos→Bool} {x:Expr} {C:Expr→Prop} (h:onAttribute f x=true) (k:∀ a0 a1 a2,f a0 a1 a2=true→C (Expr.Attribute a0 a1 a2)):C x:=by
  obtain⟨a0,a1,a2,rfl,h⟩:=onAttribute_i h
  exact k a0 a1 a2 h
noncomputable def onSubscript (f:Expr→Expr→Pos→Bool)(x:Expr):Bool:=if h:x.ctorIdx=21 then Expr.Subscript.elim (motive_1:=fun q_=>Bool) x h f else false
theorem onSubscript_i {f:Expr→Expr→Pos→Bool}{x:Expr}(h:onSubscript f x=true):∃ a0 a1 a2,x=Expr.Subscript a0 a1 a2∧f a0 a1 a2=true:=by
  obtain⟨hi,h⟩:=dite_i h
  exact Expr.Subscript.elim (motive_1:=fun y=>∀ hi:y.ctorIdx=21,Expr.Subscript.elim (motive_1:=fun q_=>Bool) y hi f=true→∃ a0 a1 a2,y=Expr.Subscript a0 a1 a2∧f a0 a1 a2=true) x hi (fun a0 a1 a2 q_ h=>⟨a0,a1,a2,rfl,h⟩) hi h
noncomputable def onStarred (f:Expr→Pos→Bool)(x:Expr):Bool:=if h:x.ctorIdx=22 then Expr.Starred.elim (motive_1:=fun q_=>Bool) x h f else false
noncomputable def onName (f:Str→Pos→Bool)(x:Expr):Bool:=if h:x.ctorIdx=23 then Expr.Name.elim (motive_1:=fun q_=>Bool) x h f else false
theorem onName_i {f:Str→Pos→Bool}{x:Expr}(h:onName f x=true):∃ a0 a1,x=Expr.Name a0 a1∧f a0 a1=true:=by
  obtain⟨hi,h⟩:=dite_i h
  exact Expr.Name.elim (motive_1:=fun y=>∀ hi:y.ctorIdx=23,Expr.Name.elim (motive_1:=fun q_=>Bool) y hi f=true→∃ a0 a1,y=Expr.Name a0 a1∧f a0 a1=true) x hi (fun a0 a1 q_ h=>⟨a0,a1,rfl,h⟩) hi h
@[elab_as_elim] theorem onName_e {f:Str→Pos→Bool} {x:Expr} {C:Expr→Prop} (h:onName f x=true) (k:∀ a0 a1,f a0 a1=true→C (Expr.Name a0 a1)):C x:=by
  obtain⟨a0,a1,rfl,h⟩:=onName_i h
  exact k a0 a1 h
noncomputable def onList (f:(List Expr)→Pos→Bool)(x:Expr):Bool:=if h:x.ctorIdx=24 then Expr.List.elim (motive_1:=fun q_=>Bool) x h f else false
theorem onList_i {f:(List Expr)→Pos→Bool}{x:Expr}(h:onList f x=true):∃ a0 a1,x=Expr.List a0 a1∧f a0 a1=true:=by
  obtain⟨hi,h⟩:=dite_i h
  exact Expr.List.elim (motive_1:=fun y=>∀ hi:y.ctorIdx=24,Expr.List.elim (motive_1:=fun q_=>Bool) y hi f=true→∃ a0 a1,y=Expr.List a0 a1∧f a0 a1=true) x hi (fun a0 a1 q_ h=>⟨a0,a1,rfl,h⟩) hi h
noncomputable def onTuple (f:(List Expr)→Nat→Pos→Bool)(x:Expr):Bool:=if h:x.ctorIdx=25 then Expr.Tuple.elim (motive_1:=fun q_=>Bool) x h f else false
theorem onTuple_i {f:(List Expr)→Nat→Pos→Bool}{x:Expr}(h:onTuple f x=true):∃ a0 a1 a2,x=Expr.Tuple a0 a1 a2∧f a0 a1 a2=true:=by
  obtain⟨hi,h⟩:=dite_i h
  exact Expr.Tuple.elim (motive_1:=fun y=>∀ hi:y.ctorIdx=25,Expr.Tuple.elim (motive_1:=fun q_=>Bool) y hi f=true→∃ a0 a1 a2,y=Expr.Tuple a0 a1 a2∧f a0 a1 a2=true) x hi (fun a0 a1 a2 q_ h=>⟨a0,a1,a2,rfl,h⟩) hi h
@[elab_as_elim] theorem onTuple_e {f:(List Expr)→Nat→Pos→Bool} {x:Expr} {C:Expr→Prop} (h:onTuple f x=true) (k:∀ a0 a1 a2,f a0 a1 a2=true→C (Expr.Tuple a0 a1 a2)):C x:=by
  obtain⟨a0,a1,a2,rfl,h⟩:=onTuple_i h
  exact k a0 a1 a2 h
noncomputable def onSlice (f:(Option Expr)→(Option Expr)→(Option Expr)→Pos→Bool)(x:Expr):Bool:=if h:x.ctorIdx=26 then Expr.Slice.elim (motive_1:=fun q_=>Bool) x h f else false
theorem onSlice_i {f:(Option Expr)→(Option Expr)→(Option Expr)→Pos→Bool}{x:Expr}(h:onSlice f x=true):∃ a0 a1 a2 a3,x=Expr.Slice a0 a1 a2 a3∧f a0 a1 a2 a3=true:=by
  obtain⟨hi,h⟩:=dite_i h
  exact Expr.Slice.elim (motive_1:=fun y=>∀ hi:y.ctorIdx=26,Expr.Slice.elim (motive_1:=fun q_=>Bool) y hi f=true→∃ a0 a1 a2 a3,y=Expr.Slice a0 a1 a2 a3∧f a0 a1 a2 a3=true) x hi (fun a0 a1 a2 a3 q_ h=>⟨a0,a1,a2,a3,rfl,h⟩) hi h
@[elab_as_elim] theorem onSlice_e {f:(Option Expr)→(Option Expr)→(Option Expr)→Pos→Bool} {x:Expr} {C:Expr→Prop} (h:onSlice f x=true) (k:∀ a0 a1 a2 a3,f a0 a1 a2 a3=true→C (Expr.Slice a0 a1 a2 a3)):C x:=by
  obtain⟨a0,a1,a2,a3,rfl,h⟩:=onSlice_i h
  exact k a0 a1 a2 a3 h
noncomputable def stFunctionDef (f:Str→Arguments→(List Stmt)→(List Expr)→(Option Expr)→(List TypeParam)→Scope→(Option Scope)→Str→Pos→Bool)(x:Stmt):Bool:=if h:x.ctorIdx=0 then Stmt.FunctionDef.elim (motive_2:=fun q_=>Bool) x h f else false
theorem stFunctionDef_i {f:Str→Arguments→(List Stmt)→(List Expr)→(Option Expr)→(List TypeParam)→Scope→(Option Scope)→Str→Pos→Bool}{x:Stmt}(h:stFunctionDef f x=true):∃ a0 a1 a2 a3 a4 a5 a6 a7 a8 a9,x=Stmt.FunctionDef a0 a1 a2 a3 a4 a5 a6 a7 a8 a9∧f a0 a1 a2 a3 a4 a5 a6 a7 a8 a9=true:=by
  obtain⟨hi,h⟩:=dite_i h
  exact Stmt.FunctionDef.elim (motive_2:=fun y=>∀ hi:y.ctorIdx=0,Stmt.FunctionDef.elim (motive_2:=fun q_=>Bool) y hi f=true→∃ a0 a1 a2 a3 a4 a5 a6 a7 a8 a9,y=Stmt.FunctionDef a0 a1 a2 a3 a4 a5 a6 a7 a8 a9∧f a0 a1 a2 a3 a4 a5 a6 a7 a8 a9=true) x hi (fun a0 a1 a2 a3 a4 a5 a6 a7 a8 a9 q_ h=>⟨a0,a1,a2,a3,a4,a5,a6,a7,a8,a9,rfl,h⟩) hi h
noncomputable def stReturn (f:(Option Expr)→Pos→Bool)(x:Stmt):Bool:=if h:x.ctorIdx=3 then Stmt.Return.elim (motive_2:=fun q_=>Bool) x h f else false
theorem stReturn_i {f:(Option Expr)→Pos→Bool}{x:Stmt}(h:stReturn f x=true):∃ a0 a1,x=Stmt.Return a0 a1∧f a0 a1=true:=by
  obtain⟨hi,h⟩:=dite_i h
  exact Stmt.Return.elim (motive_2:=fun y=>∀ hi:y.ctorIdx=3,Stmt.Return.elim (motive_2:=fun q_=>Bool) y hi f=true→∃ a0 a1,y=Stmt.Return a0 a1∧f a0 a1=true) x hi (fun a0 a1 q_ h=>⟨a0,a1,rfl,h⟩) hi h
noncomputable def stAssign (f:(List Expr)→Expr→Pos→Bool)(x:Stmt):Bool:=if h:x.ctorIdx=5 then Stmt.Assign.elim (motive_2:=fun q_=>Bool) x h f else false
theorem stAssign_i {f:(List Expr)→Expr→Pos→Bool}{x:Stmt}(h:stAssign f x=true):∃ a0 a1 a2,x=Stmt.Assign a0 a1 a2∧f a0 a1 a2=true:=by
  obtain⟨hi,h⟩:=dite_i h
  exact Stmt.Assign.elim (motive_2:=fun y=>∀ hi:y.ctorIdx=5,Stmt.Assign.elim (motive_2:=fun q_=>Bool) y hi f=true→∃ a0 a1 a2,y=Stmt.Assign a0 a1 a2∧f a0 a1 a2=true) x hi (fun a0 a1 a2 q_ h=>⟨a0,a1,a2,rfl,h⟩) hi h
noncomputable def stAugAssign (f:Expr→Operator→Expr→Pos→Bool)(x:Stmt):Bool:=if h:x.ctorIdx=7 then Stmt.AugAssign.elim (motive_2:=fun q_=>Bool) x h f else false
theorem stAugAssign_i {f:Expr→Operator→Expr→Pos→Bool}{x:Stmt}(h:stAugAssign f x=true):∃ a0 a1 a2 a3,x=Stmt.AugAssign a0 a1 a2 a3∧f a0 a1 a2 a3=true:=by
  obtain⟨hi,h⟩:=dite_i h
  exact Stmt.AugAssign.elim (motive_2:=fun y=>∀ hi:y.ctorIdx=7,Stmt.AugAssign.elim (motive_2:=fun q_=>Bool) y hi f=true→∃ a0 a1 a2 a3,y=Stmt.AugAssign a0 a1 a2 a3∧f a0 a1 a2 a3=true) x hi (fun a0 a1 a2 a3 q_ h=>⟨a0,a1,a2,a3,rfl,h⟩) hi h
noncomputable def stFor (f:Expr→Expr→(List Stmt)→(List Stmt)→Pos→Bool)(x:Stmt):Bool:=if h:x.ctorIdx=9 then Stmt.For.elim (motive_2:=fun q_=>Bool) x h f else false
theorem stFor_i {f:Expr→Expr→(List Stmt)→(List Stmt)→Pos→Bool}{x:Stmt}(h:stFor f x=true):∃ a0 a1 a2 a3 a4,x=Stmt.For a0 a1 a2 a3 a4∧f a0 a1 a2 a3 a4=true:=by
  obtain⟨hi,h⟩:=dite_i h
  exact Stmt.For.elim (motive_2:=fun y=>∀ hi:y.ctorIdx=9,Stmt.For.elim (motive_2:=fun q_=>Bool) y hi f=true→∃ a0 a1 a2 a3 a4,y=Stmt.For a0 a1 a2 a3 a4∧f a0 a1 a2 a3 a4=true) x hi (fun a0 a1 a2 a3 a4 q_ h=>⟨a0,a1,a2,a3,a4,rfl,h⟩) hi h
noncomputable def stWhile (f:Expr→(List Stmt)→(List Stmt)→Pos→Bool)(x:Stmt):Bool:=if h:x.ctorIdx=11 then Stmt.While.elim (motive_2:=fun q_=>Bool) x h f else false
theorem stWhile_i {f:Expr→(List Stmt)→(List Stmt)→Pos→Bool}{x:Stmt}(h:stWhile f x=true):∃ a0 a1 a2 a3,x=Stmt.While a0 a1 a2 a3∧f a0 a1 a2 a3=true:=by
  obtain⟨hi,h⟩:=dite_i h
  exact Stmt.While.elim (motive_2:=fun y=>∀ hi:y.ctorIdx=11,Stmt.While.elim (motive_2:=fun q_=>Bool) y hi f=true→∃ a0 a1 a2 a3,y=Stmt.While a0 a1 a2 a3∧f a0 a1 a2 a3=true) x hi (fun a0 a1 a2 a3 q_ h=>⟨a0,a1,a2,a3,rfl,h⟩) hi h
noncomputable def stIf (f:Expr→(List Stmt)→(List Stmt)→Pos→Bool)(x:Stmt):Bool:=if h:x.ctorIdx=12 then Stmt.If.elim (motive_2:=fun q_=>Bool) x h f else false
theorem stIf_i {f:Expr→(List Stmt)→(List Stmt)→Pos→Bool}{x:Stmt}(h:stIf f x=true):∃ a0 a1 a2 a3,x=Stmt.If a0 a1 a2 a3∧f a0 a1 a2 a3=true:=by
  obtain⟨hi,h⟩:=dite_i h
  exact Stmt.If.elim (motive_2:=fun y=>∀ hi:y.ctorIdx=12,Stmt.If.elim (motive_2:=fun q_=>Bool) y hi f=true→∃ a0 a1 a2 a3,y=Stmt.If a0 a1 a2 a3∧f a0 a1 a2 a3=true) x hi (fun a0 a1 a2 a3 q_ h=>⟨a0,a1,a2,a3,rfl,h⟩) hi h
noncomputable def stRaise (f:(Option Expr)→(Option Expr)→Pos→Bool)(x:Stmt):Bool:=if h:x.ctorIdx=16 then Stmt.Raise.elim (motive_2:=fun q_=>Bool) x h f else false
noncomputable def stExpr (f:Expr→Pos→Bool)(x:Stmt):Bool:=if h:x.ctorIdx=24 then Stmt.Expr.elim (motive_2:=fun q_=>Bool) x h f else false
theorem stExpr_i {f:Expr→Pos→Bool}{x:Stmt}(h:stExpr f x=true):∃ a0 a1,x=Stmt.Expr a0 a1∧f a0 a1=true:=by
  obtain⟨hi,h⟩:=dite_i h
  exact Stmt.Expr.elim (motive_2:=fun y=>∀ hi:y.ctorIdx=24,Stmt.Expr.elim (motive_2:=fun q_=>Bool) y hi f=true→∃ a0 a1,y=Stmt.Expr a0 a1∧f a0 a1=true) x hi (fun a0 a1 q_ h=>⟨a0,a1,rfl,h⟩) hi h
noncomputable def coNone (f:Bool)(x:Const):Bool:=@Const.casesOn (fun q_=>Bool) x f (fun q_=>false) (fun q_=>false) (fun q_=>false) (fun q_ q_=>false) (fun q_=>false) (fun q_=>false) false
theorem coNone_i {f:Bool}{x:Const}(h:coNone f x=true):x=Const.none  ∧ f  = true:=@Const.casesOn (fun y=>x=y→coNone f y=true→x=Const.none  ∧ f  = true) x (fun  e h=>⟨ e,h⟩) (fun q_ q_=>bad) (fun q_ q_=>bad) (fun q_ q_=>bad) (fun q_ q_ q_=>bad) (fun q_ q_=>bad) (fun q_ q_=>bad) (fun  _=>bad) rfl h
noncomputable def coBool (f:Bool→Bool)(x:Const):Bool:=@Const.casesOn (fun q_=>Bool) x false f (fun q_=>false) (fun q_=>false) (fun q_ q_=>false) (fun q_=>false) (fun q_=>false) false
theorem coBool_i {f:Bool→Bool}{x:Const}(h:coBool f x=true):∃ a0,x=Const.bool a0∧f a0=true:=@Const.casesOn (fun y=>x=y→coBool f y=true→∃ a0,x=Const.bool a0∧f a0=true) x (fun  _=>bad) (fun a0 e h=>⟨a0,e,h⟩) (fun q_ q_=>bad) (fun q_ q_=>bad) (fun q_ q_ q_=>bad) (fun q_ q_=>bad) (fun q_ q_=>bad) (fun  _=>bad) rfl h
@[elab_as_elim] theorem coBool_e {f:Bool→Bool} {x:Const} {C:Const→Prop} (h:coBool f x=true) (k:∀ a0,f a0=true→C (Const.bool a0)):C x:=by
  obtain⟨a0,rfl,h⟩:=coBool_i h
  exact k a0 h
noncomputable def coInt (f:Int→Bool)(x:Const):Bool:=@Const.casesOn (fun q_=>Bool) x false (fun q_=>false) f (fun q_=>false) (fun q_ q_=>false) (fun q_=>false) (fun q_=>false) false
theorem coInt_i {f:Int→Bool}{x:Const}(h:coInt f x=true):∃ a0,x=Const.int a0∧f a0=true:=@Const.casesOn (fun y=>x=y→coInt f y=true→∃ a0,x=Const.int a0∧f a0=true) x (fun  _=>bad) (fun q_ q_=>bad) (fun a0 e h=>⟨a0,e,h⟩) (fun q_ q_=>bad) (fun q_ q_ q_=>bad) (fun q_ q_=>bad) (fun q_ q_=>bad) (fun  _=>bad) rfl h
@[elab_as_elim] theorem coInt_e {f:Int→Bool} {x:Const} {C:Const→Prop} (h:coInt f x=true) (k:∀ a0,f a0=true→C (Const.int a0)):C x:=by
  obtain⟨a0,rfl,h⟩:=coInt_i h
  exact k a0 h
noncomputable def coStr (f:Str→Bool)(x:Const):Bool:=@Const.casesOn (fun q_=>Bool) x false (fun q_=>false) (fun q_=>false) (fun q_=>false) (fun q_ q_=>false) f (fun q_=>false) false
theorem coStr_i {f:Str→Bool}{x:Const}(h:coStr f x=true):∃ a0,x=Const.str a0∧f a0=true:=@Const.casesOn (fun y=>x=y→coStr f y=true→∃ a0,x=Const.str a0∧f a0=true) x (fun  _=>bad) (fun q_ q_=>bad) (fun q_ q_=>bad) (fun q_ q_=>bad) (fun q_ q_ q_=>bad) (fun a0 e h=>⟨a0,e,h⟩) (fun q_ q_=>bad) (fun  _=>bad) rfl h
@[elab_as_elim] theorem coStr_e {f:Str→Bool} {x:Const} {C:Const→Prop} (h:coStr f x=true) (k:∀ a0,f a0=true→C (Const.str a0)):C x:=by
  obtain⟨a0,rfl,h⟩:=coStr_i h
  exact k a0 h
noncomputable def on1 {α:Type}(f:α→Bool)(xs:List α):Bool:=xs.rec false fun a r q_=>r.rec (f a) fun q_ q_ q_=>false
noncomputable def on2 {α:Type}(f:α→α→Bool)(xs:List α):Bool:=xs.rec false fun a r q_=>on1 (f a) r
theorem on1_i {α:Type}{f:α→Bool}:∀ {xs:List α},on1 f xs=true→∃ a,xs=[a]∧f a=true
  | [a],h=>⟨a,rfl,h⟩
  | [],h=>bad h
  | _::_::_,h=>bad h
@[elab_as_elim] theorem on1_e {α:Type} {f:α→Bool} {xs:List α} {C:List α→Prop} (h:on1 f xs=true) (k:∀ a,f a=true→C [a]):C xs:=by
  obtain⟨a,rfl,h⟩:=on1_i h
  exact k a h
theorem on2_i {α:Type}{f:α→α→Bool}:∀ {xs:List α},on2 f xs=true→∃ a b,xs=[a,b]∧f a b=true
  | a::r,h=>by
    obtain⟨b,rfl,h⟩:=on1_i (f:=f a) h
    exact⟨a,b,rfl,h⟩
  | [],h=>bad h
@[elab_as_elim] theorem on2_e {α:Type} {f:α→α→Bool} {xs:List α} {C:List α→Prop} (h:on2 f xs=true) (k:∀ a b,f a b=true→C [a,b]):C xs:=by
  obtain⟨a,b,rfl,h⟩:=on2_i h
  exact k a b h
noncomputable def onC {α:Type}(f:α→List α→Bool)(xs:List α):Bool:=xs.rec false fun a r q_=>f a r
theorem onC_i {α:Type}{f:α→List α→Bool}:∀ {xs:List α},onC f xs=true→∃ a r,xs=a::r∧f a r=true
  | a::r,h=>⟨a,r,rfl,h⟩
  | [],h=>bad h
@[elab_as_elim] theorem onC_e {α:Type} {f:α→List α→Bool} {xs:List α} {C:List α→Prop} (h:onC f xs=true) (k:∀ a r,f a r=true→C (a::r)):C xs:=by
  obtain⟨a,r,rfl,h⟩:=onC_i h
  exact k a r h
noncomputable def onS {α:Type}(f:α→Bool)(o:Option α):Bool:=o.rec false f
theorem onS_i {α:Type}{f:α→Bool}:∀ {o:Option α},onS f o=true→∃ a,o=some a∧f a=true
  | some a,h=>⟨a,rfl,h⟩
  | none,h=>bad h
@[elab_as_elim] theorem onS_e {α:Type} {f:α→Bool} {o:Option α} {C:Option α→Prop} (h:onS f o=true) (k:∀ a,f a=true→C (some a)):C o:=by
  obtain⟨a,rfl,h⟩:=onS_i h
  exact k a h
noncomputable def onN {α:Type}(o:Option α):Bool:=o.rec true fun q_=>false
theorem onN_i {α:Type}:∀ {o:Option α},onN o=true→o=none
  | none,_=>rfl
  | some _,h=>bad h
noncomputable def on0 {α:Type}(o:List α):Bool:=o.rec true fun q_ q_ q_=>false
theorem on0_i {α:Type}:∀ {o:List α},on0 o=true→o=[]
  | [],_=>rfl
  | _::_,h=>bad h
noncomputable def toS (cs:List Nat):Str:=⟨cs.toArray⟩
noncomputable def isS (cs:List Nat)(x:Str):Bool:=decide (x.cps.toList=cs)
theorem isS_eq {cs:List Nat}{x:Str}(h:isS cs x=true):x=toS cs:=by
  have e:x.cps.toList=cs:=of_decide_eq_true h
  unfold toS
  rw[←e]
noncomputable def Fld.name:Fld→Str
  | .kind=>Str.ofString "kind"
  | .text=>Str.ofString "text"
  | .depth=>Str.ofString "depth"
  | .frames=>Str.ofString "frames"
  | .steps=>Str.ofString "steps"
  | .loops=>Str.ofString "loops"
  | .ic=>Str.ofString "ignores_case"
  | .ml=>Str.ofString "is_multiline"
  | .left=>Str.ofString "left"
  | .waiting=>Str.ofString "waiting"
noncomputable def Me.name:Me→Str
  | .append=>Str.ofString "append"
  | .pop=>Str.ofString "pop"
  | .extend=>Str.ofString "extend"
  | .upper=>Str.ofString "upper"
  | .isalnum=>Str.ofString "isalnum"
  | .join=>Str.ofString "join"
structure Tabs where
  gnames:List (List Nat)
  mnames:List (List Nat)
  sfx:Option (List Nat):=none
  lamE:Nat→List (List Nat)→Arguments→Expr→Scope→Bool:=fun q_ q_ q_ q_ q_=>false
  lamS:Nat→List (List Nat)→Arguments→List Stmt→Scope→Bool:=fun q_ q_ q_ q_ q_=>false
noncomputable def Tabs.bare (T:Tabs):Tabs:={ gnames:=T.gnames,mnames:=T.mnames }
noncomputable def jH (sc:Scope)(x:Str)(k:NameKind):Bool:=sc.names.lookup x==some k
noncomputable def inFrame (sc:Scope)(x:Str):Bool:=jH sc x .local||jH sc x .cell||jH sc x .free
noncomputable def Op2.op:Op2→Operator
  | .add => .Add
  | .sub => .Sub
  | .mul => .Mult
  | .fdiv => .FloorDiv
  | .mod => .Mod
noncomputable def op2 (o:Op2)(p:Operator):Bool:=decide (p=o.op)
noncomputable def OpC.op:OpC→CmpOp
  | .eq => .Eq
  | .ne => .NotEq
  | .lt => .Lt
  | .le => .LtE
  | .gt => .Gt
  | .ge => .GtE
  | .is => .Is
  | .isNot => .IsNot
  | .isIn => .In
noncomputable def opC (o:OpC)(p:CmpOp):Bool:=decide (p=o.op)
noncomputable def plainArgs (a:Arguments)(ps:List (List Nat)):Bool :=
  a.posonlyargs.isEmpty&&a.vararg.isNone&&a.kwonlyargs.isEmpty&&a.kw_defaults.isEmpty&&a.kwarg.isNone&&a.defaults.isEmpty &&
  decide (a.args.map (fun x=>x.arg.cps.toList)=ps)&&a.args.all (fun x=>x.annotation.isNone)
noncomputable def scopeOk (sc:Scope)(names:List (List Nat)):Bool :=
  sc.kind == .function && !sc.isGenerator && !sc.isCoroutine&&decide names.Nodup&&decide (sc.names.map (·.1)).Nodup&&names.all fun x=>inFrame sc (toS x)
noncomputable def closOk (sc sc':Scope)(names names':List (List Nat))(caps:List (Nat×Nat)):Bool :=
  scopeOk sc' names'&&sc'.names.all (fun p=>p.2 != .cell) &&
  sc'.names.all (fun p=>p.2 != .free||caps.any fun c=>decide (names'[c.2]? = some p.1.cps.toList)) &&
  caps.all fun c=>match names[c.1]?,names'[c.2]? with
    | some x,some y=>decide (x=y)&&jH sc' (toS y) .free&&(jH sc (toS x) .cell||jH sc (toS x) .free)
    | _,_=>false
noncomputable def parsLocal (sc:Scope)(ps:List (List Nat)):Bool:=ps.all fun x=>jH sc (toS x) .local
noncomputable def oneLine (o:Expr)(apos pos:Pos):Bool:=apos.endLine==pos.line
noncomputable def noFold (x:Expr):Bool := !onSet (fun q_ q_ q_=>true) x && !onList (fun q_ q_=>true) x
noncomputable def notComp (x:Expr):Bool := !onListComp (fun q_ q_ q_ q_=>true) x && !onSetComp (fun q_ q_ q_ q_=>true) x && !onDictComp (fun q_ q_ q_ q_ q_=>true) x
noncomputable def isName (x:Expr):Bool:=onName (fun q_ q_=>true) x
noncomputable def isStar (x:Expr):Bool:=onStarred (fun q_ q_=>true) x
noncomputable def isCall (x:Expr):Bool:=onCall (fun q_ q_ q_ q_=>true) x
noncomputable def isSlice (x:Expr):Bool:=onSlice (fun q_ q_ q_ q_=>true) x
noncomputable def isNm (ns:List (List Nat))(i:Nat)(x:Str):Bool:=onS (fun n=>isS n x) ns[i]?
noncomputable def inOrder (a b:Expr):Bool := !onList (fun q_ q_=>true) a&&(!(onTuple (fun q_ q_ q_=>true) a&&onTuple (fun q_ q_ q_=>true) b)||onTuple (fun ts q_ q_=>ts.any fun t => !isName t) a||onTuple (fun vs q_ q_=>vs.all (foldedForSure 8)) b)
noncomputable def mNs (sc:Scope)(ns:List (List Nat)):List Nat→List Expr→Bool
  | [],xs=>on0 xs
  | i::is,xs=>onC (fun x r=>onName (fun x q_=>isNm ns i x&&jH sc x .local) x&&mNs sc ns is r) xs
noncomputable def mKs:List (List Nat)→List (Option Expr)→Bool
  | [],xs=>on0 xs
  | k::ks,xs=>onC (fun x r=>onS (onConstant fun c q_ q_=>coStr (isS k) c) x&&mKs ks r) xs
end
section
open PySem PySem.W PyProof.Rows PySem.Calls
noncomputable abbrev tplO (vs:Array Value)(n:Nat):Obj:={ cls := .type "tuple",data := .seq vs n }
noncomputable abbrev lstO (vs:Array Value)(n:Nat):Obj:={ cls := .type "list",data := .seq vs n }
noncomputable abbrev dctO (es:Array DictEntry)(n:Nat):Obj:={ cls := .type "dict",data := .dict es n }
noncomputable abbrev fnO (fd:FuncData):Obj:={ cls := .type "function",data := .func fd }
noncomputable abbrev insO (C d:Addr):Obj:={ cls := .ref C,dict:=some d,data := .plain }
structure CR where
  nm:Str
  q:Str
  N:Addr
  bs:List Value
  sn:List Str
  sub:List Value
  ab:Bool
  col:Option Bool
  dd:Option Addr
  k0:Option Value
  k1:Option Value
  k2:Option Value
  k3:Option Value
  k5:Option Value
noncomputable abbrev CR.obj (r:CR)(C:Addr)(bm:List Value)(ab:Bool)(newId:String):Obj:=excClassObj r.nm r.q C r.N r.bs bm true r.sn r.sub ab r.col r.dd r.k0 r.k1 r.k2 r.k3 r.k5 newId
structure St where
  g:Addr→Option Obj
  al:List (Addr×Option Addr)
noncomputable def ZB:List (Addr×Option Addr)→List Addr
  | []=>[]
  | p::r=>p.1::(p.2.toList++ZB r)
noncomputable def St.adr (G:St):List Addr:=ZB G.al
noncomputable def Bi.val:Bi→Value
  | .len => .builtin "len"
  | .abs => .builtin "abs"
  | .int => .type "int"
  | .ord => .builtin "ord"
  | .chr => .builtin "chr"
  | .any => .builtin "any"
  | .isinstance => .builtin "isinstance"
  | .list => .type "list"
  | .tuple => .type "tuple"
  | .range => .type "range"
  | .zip => .type "zip"
  | .enumerate => .type "enumerate"
  | .min => .builtin "min"
structure Base where
  prog:Program
  w:World
  h₀:Heap
  T:Tabs
  Gl:Glo
  tabs:List (Addr×Addr)
  siteQ:Addr→Str
  cloN:Nat→List (List Nat)
  cloA:Nat→Nat
  cloE:Nat→Expr→Scope→Prop
  cloS:Nat→List Stmt→Scope→Prop
  fnA:Nat→Addr
  clA:Cls→Addr
  mg:Str→Option Value
  mb:Str→Option Value
noncomputable def Base.tabP (B:Base):List Addr:=B.tabs.map (·.2)
noncomputable def CloOk (B:Base)(k:Nat)(fd:FuncData):Prop :=
  plainArgs fd.params ((B.cloN k).take (B.cloA k))=true∧parsLocal fd.scope ((B.cloN k).take (B.cloA k))=true∧B.cloA k≤(B.cloN k).length∧scopeOk fd.scope (B.cloN k)=true∧(∀ p∈fd.scope.names,p.2 ≠ .cell) ∧
    fd.globals=mainGlobals∧fd.builtins=builtinsNs∧fd.defaults = .none∧fd.kwdefaults = .none ∧
    match fd.body with
    | .expr x=>B.cloE k x fd.scope
    | .stmts xs=>B.cloS k xs fd.scope
noncomputable def CapsOk (names:List (List Nat))(fd:FuncData)(caps:List (Nat×AV)):Prop :=
  (∀ p∈fd.scope.names,p.2 = .free→∃ c∈caps,names[c.1]? = some p.1.cps.toList)∧∀ c∈caps,∃ n,names[c.1]? = some n∧jH fd.scope (toS n) .free=true
noncomputable def CodeG (G:St)(cv:Value)(q:Str):Prop:=∃ c o vs t,cv = .ref c∧G.g c=some o∧o.data = .fields vs∧vs[1]? = some (.str q t)
noncomputable def LstG (G:St)(a:Addr)(vs:Array Value)(n:Nat):Prop:=∃ o,G.g a=some o∧o.cls = .type "list" ∧ o.data = .seq vs n
theorem LstG.mono {G G':St}{a:Addr}{vs:Array Value}{n:Nat}(k:∀ b o,G.g b=some o→G'.g b=some o)(x:LstG G a vs n):LstG G' a vs n:=x.elim fun o q=>⟨o,k _ _ q.1,q.2⟩
mutual
noncomputable def Rep (B:Base)(G:St):AV→Value→Prop
  | .none,v=>v = .none
  | .bool b,v=>v = .bool b
  | .int i,v=>∃ t,v = .int i t
  | .str cs,v=>∃ t,v = .str (toS cs) t
  | .tup xs,v=>∃ a vs n,v = .ref a∧G.g a=some (tplO vs n)∧RepL B G xs vs.toList
  | .lst xs,v=>∃ a vs n,v = .ref a∧G.g a=some (lstO vs n)∧RepL B G xs vs.toList
  | .row xs,v=>∃ a vs n,v = .ref a∧LstG G a vs n∧RepL B G xs vs.toList
  | .dct kvs,v=>∃ a es n,v = .ref a∧G.g a=some (dctO es n)∧(a==sysModules)=false∧RepD B G kvs es.toList
  | .obj i,v=>∃ p,G.al[i]? = some p∧v = .ref p.1
  | .fn k,v=>v = .ref (B.fnA k)
  | .cls c,v=>v = .ref (B.clA c)
  | .bi b,v=>v=b.val
  | .clo k caps,v=>∃ a fd,v = .ref a∧G.g a=some (fnO fd)∧CloOk B k fd∧CodeG G fd.code fd.qualname∧CapsOk (B.cloN k) fd caps∧RepC B G (B.cloN k) fd.closure caps
noncomputable def RepL (B:Base)(G:St):List AV→List Value→Prop
  | [],vs=>vs=[]
  | x::xs,vs=>∃ v r,vs=v::r∧Rep B G x v∧RepL B G xs r
noncomputable def RepD (B:Base)(G:St):List (Int×AV)→List DictEntry→Prop
  | [],es=>es=[]
  | p::r,es=>∃ e t u,es=e::u∧e.key = .int p.1 t∧e.hash=hashInt p.1∧Rep B G p.2 e.val∧RepD B G r u
noncomputable def RepC (B:Base)(G:St)(names:List (List Nat))(cl:List (Str×Addr)):List (Nat×AV)→Prop
  | []=>True
  | p::r=>(∃ n c o v,names[p.1]? = some n∧cl.lookup (toS n)=some c∧G.g c=some o∧o.data = .cell (some v)∧Rep B G p.2 v)∧RepC B G names cl r
end
noncomputable def AObjOk (B:Base)(G:St)(h:Heap)(p:Addr×Option Addr):AObj→Prop
  | .list xs=>p.2=none∧∃ vs n,h.get? p.1=some (lstO vs n)∧RepL B G xs vs.toList
  | .inst c fs=>∃ d m,p.2=some d∧h.get? p.1=some (insO (B.clA c) d)∧h.Ns1 d m ∧
      (∀ f,match fs f with | some av=>∃ v,m f.name=some v∧Rep B G av v | none=>m f.name=none) ∧
      ∀ y,m y≠none→∃ f,y=Fld.name f
noncomputable def TabOk (B:Base)(G:St)(h:Heap)(q:Addr×Addr):Prop :=
  ∃ ps,h.get? q.2=some (tabObj ps)∧TriplesOk ps.toList∧∀ pos cv,codeAmong pos ps.toList=some cv→CodeG G cv (B.siteQ q.1)
structure Inv (B:Base)(G:St)(H:AH)(h:Heap):Prop where
  sub:∀ b o,G.g b=some o→h.get? b=some o
  old:∀ b o,B.h₀.get? b=some o→b ∉ B.tabP→G.g b=some o
  tabs:∀ q∈B.tabs,TabOk B G h q
  tabG:∀ P∈B.tabP,G.g P=none
  len:G.al.length=H.length
  nod:G.adr.Nodup
  off:∀ a∈G.adr,G.g a=none∧a ∉ B.tabP∧∃ o,h.get? a=some o
  objs:∀ (i:Nat) o p,H[i]? = some o→G.al[i]? = some p→AObjOk B G h p o
structure Step (B:Base)(X:Addr→Prop)(G:St)(h:Heap)(G':St)(h':Heap):Prop where
  live:∀ b o,¬ X b→h.get? b=some o→∃ o',h'.get? b=some o'
  mono:∀ b o,G.g b=some o→G'.g b=some o
  ext:∀ b o,h.get? b=some o→¬ X b→G'.g b=G.g b
  al:∃ l,G'.al=G.al++l∧∀ a∈ZB l,¬ X a→h.get? a=none
  keep:∀ b o,¬ X b→b ∉ G.adr→b ∉ B.tabP→h.get? b=some o→h'.get? b=some o
noncomputable abbrev Pure:Addr→Prop:=fun q_=>False
theorem adrOf_append:∀ (l r:List (Addr×Option Addr)),ZB (l++r)=ZB l++ZB r
  | [],_=>rfl
  | p::l,r=>by
    show p.1::(p.2.toList++ZB (l++r))=(p.1::(p.2.toList++ZB l))++ZB r
    rw[adrOf_append l r,List.cons_append,List.append_assoc]
theorem mem_adr1:∀ {l:List (Addr×Option Addr)}{i:Nat}{p:Addr×Option Addr},l[i]? = some p→p.1∈ZB l
  | [],_,_,h=>by cases h
  | q::l,0,p,h=>by
    cases h
    exact List.mem_cons_self
  | q::l,i+1,p,h=>List.mem_cons_of_mem _ (List.mem_append_right _ (mem_adr1 (l:=l) (i:=i) h))
theorem mem_adr2:∀ {l:List (Addr×Option Addr)}{i:Nat}{p:Addr×Option Addr}{d:Addr},l[i]? = some p→p.2=some d→d∈ZB l
  | [],_,_,_,h,_=>by cases h
  | q::l,0,p,d,h,e=>by
    cases h
    refine List.mem_cons_of_mem _ (List.mem_append_left _ ?_)
    rw[e];exact List.mem_cons_self
  | q::l,i+1,p,d,h,e=>List.mem_cons_of_mem _ (List.mem_append_right _ (mem_adr2 (l:=l) (i:=i) h e))
theorem Heap.get?_end (h:Heap):h.get? h.objs.size=none:=by
  cases e:h.get? h.objs.size with
  | none=>rfl
  | some o=>exact absurd (Heap.lt_size e) (Nat.lt_irrefl _)
theorem Step.refl (B:Base)(X:Addr→Prop)(G:St)(h:Heap):Step B X G h G h :=
  ⟨fun q_ o q_ e=>⟨o,e⟩,fun q_ q_ e=>e,fun q_ q_ q_ q_=>rfl,⟨[],(List.append_nil _).symm,fun q_ hm=>nomatch hm⟩,fun q_ q_ q_ q_ q_ e=>e⟩
theorem Step.trans {B:Base}{X:Addr→Prop}{G G1 G2:St}{h h1 h2:Heap}(a:Step B X G h G1 h1)(b:Step B X G1 h1 G2 h2):Step B X G h G2 h2:=by
  refine via fun R_ k_=>?_
  obtain⟨l,e,hl⟩:=a.al
  obtain⟨l',e',hl'⟩:=b.al
  refine k_ ?_
  refine ⟨fun x o n q=>(a.live x o n q).elim fun o' q'=>b.live x o' n q',fun x o q=>b.mono x o (a.mono x o q),fun x o hx hX=>(a.live x o hX hx).elim fun o' q'=>(b.ext x o' q' hX).trans (a.ext x o hx hX),
    ⟨l++l',by rw[e',e,List.append_assoc],fun x hx n=>?_⟩,fun x o hX hn ht q=>b.keep x o hX ?_ ht (a.keep x o hX hn ht q)⟩
  · rw [adrOf_append] at hx
    rcases List.mem_append.mp hx with hx | hx
    · exact hl x hx n
    · cases q:h.get? x with
      | none=>rfl
      | some o =>
        obtain⟨o',q'⟩:=a.live x o n q
        rw[hl' x hx n] at q';cases q'
  · intro hm
    unfold St.adr at hm
    rw[e,adrOf_append] at hm
    rcases List.mem_append.mp hm with hm | hm
    · exact hn hm
    · rw[hl x hm hX] at q;cases q
theorem Step.weak {B:Base}{X Y:Addr→Prop}{G G1:St}{h h1:Heap}(a:Step B X G h G1 h1)(k:∀ b,X b→Y b):Step B Y G h G1 h1 :=
  ⟨fun b o n=>a.live b o fun q=>n (k b q),a.mono,fun b o hb hY=>a.ext b o hb fun q=>hY (k b q),a.al.elim fun l q=>⟨l,q.1,fun x hx n=>q.2 x hx fun y=>n (k x y)⟩,fun b o hY=>a.keep b o fun q=>hY (k b q)⟩
theorem Step.pure {B:Base}{Y:Addr→Prop}{G G1:St}{h h1:Heap}(a:Step B Pure G h G1 h1):Step B Y G h G1 h1:=a.weak fun q_ q=>q.elim
theorem Step.shut {B:Base}{X:Addr→Prop}{G G1:St}{h h1:Heap}(a:Step B X G h G1 h1)(k:∀ b,X b→h.get? b=none):Step B Pure G h G1 h1 :=
  ⟨fun b o q_ e=>a.live b o (fun q=>by rw[k b q] at e;cases e) e,a.mono,fun b o hb q_=>a.ext b o hb fun q=>(by rw[k b q] at hb;cases hb),
    a.al.elim fun l q=>⟨l,q.1,fun x hx q_=>Classical.byCases (fun y:X x=>k x y) fun y=>q.2 x hx y⟩,fun b o q_ h1 h2 e=>a.keep b o (fun q=>by rw[k b q] at e;cases e) h1 h2 e⟩
theorem Step.shutTo {B:Base}{X Y:Addr→Prop}{G G1:St}{h h1:Heap}(a:Step B (fun b=>X b∨Y b) G h G1 h1)(k:∀ b,Y b→h.get? b=none):Step B X G h G1 h1 :=
  ⟨fun b o n e=>a.live b o (fun q=>q.elim n fun q=>by rw[k b q] at e;cases e) e,a.mono,fun b o hb n=>a.ext b o hb fun q=>q.elim n fun q=>(by rw[k b q] at hb;cases hb),
    a.al.elim fun l q=>⟨l,q.1,fun x hx n=>Classical.byCases (fun y:Y x=>k x y) fun y=>q.2 x hx fun z=>z.elim n y⟩,fun b o n h1 h2 e=>a.keep b o (fun q=>q.elim n fun q=>by rw[k b q] at e;cases e) h1 h2 e⟩
theorem Step.alAt {B:Base}{X:Addr→Prop}{G G1:St}{h h1:Heap}(a:Step B X G h G1 h1){i:Nat}{p:Addr×Option Addr}(e:G.al[i]? = some p):G1.al[i]? = some p:=by
  obtain⟨l,q,_⟩:=a.al
  rw[q]
  exact(List.getElem?_append_left (List.getElem?_eq_some_iff.mp e).1).trans e
theorem CodeG.mono {G G':St}{cv:Value}{q:Str}(k:∀ b o,G.g b=some o→G'.g b=some o)(x:CodeG G cv q):CodeG G' cv q:=by
  refine via fun R_ k_=>?_
  obtain⟨c,o,vs,t,a,b,r⟩:=x
  refine k_ ?_
  exact⟨c,o,vs,t,a,k _ _ b,r⟩
mutual
theorem Rep.mono {B:Base}{G G':St}(k:∀ b o,G.g b=some o→G'.g b=some o)(ka:∀ (i:Nat) p,G.al[i]? = some p→G'.al[i]? = some p):∀ {x:AV}{v:Value},Rep B G x v→Rep B G' x v
  | .none,_,h=>h
  | .bool _,_,h=>h
  | .int _,_,h=>h
  | .str _,_,h=>h
  | .tup xs,_,⟨a,vs,n,e,g,r⟩=>⟨a,vs,n,e,k _ _ g,RepL.mono k ka r⟩
  | .lst xs,_,⟨a,vs,n,e,g,r⟩=>⟨a,vs,n,e,k _ _ g,RepL.mono k ka r⟩
  | .row xs,_,⟨a,vs,n,e,g,r⟩=>⟨a,vs,n,e,g.mono k,RepL.mono k ka r⟩
  | .dct kvs,_,⟨a,es,n,e,g,q,r⟩=>⟨a,es,n,e,k _ _ g,q,RepD.mono k ka r⟩
  | .obj i,_,⟨p,e,r⟩=>⟨p,ka _ _ e,r⟩
  | .fn _,_,h=>h
  | .cls _,_,h=>h
  | .bi _,_,h=>h
  | .clo f caps,_,⟨a,fd,e,g,c,q,fr,r⟩=>⟨a,fd,e,k _ _ g,c,q.mono k,fr,RepC.mono k ka r⟩
theorem RepL.mono {B:Base}{G G':St}(k:∀ b o,G.g b=some o→G'.g b=some o)(ka:∀ (i:Nat) p,G.al[i]? = some p→G'.al[i]? = some p):∀ {xs:List AV}{vs:List Value},RepL B G xs vs→RepL B G' xs vs
  | [],_,h=>h
  | _::_,_,⟨v,r,e,a,b⟩=>⟨v,r,e,Rep.mono k ka a,RepL.mono k ka b⟩
theorem RepD.mono {B:Base}{G G':St}(k:∀ b o,G.g b=some o→G'.g b=some o)(ka:∀ (i:Nat) p,G.al[i]? = some p→G'.al[i]? = some p):∀ {xs:List (Int×AV)}{vs:List DictEntry},RepD B G xs vs→RepD B G' xs vs
  | [],_,h=>h
  | (_,_)::_,_,⟨e,t,u,q,a,b,c,d⟩=>⟨e,t,u,q,a,b,Rep.mono k ka c,RepD.mono k ka d⟩
theorem RepC.mono {B:Base}{G G':St}{names:List (List Nat)}{cl:List (Str×Addr)}(k:∀ b o,G.g b=some o→G'.g b=some o)(ka:∀ (i:Nat) p,G.al[i]? = some p→G'.al[i]? = some p):∀ {xs:List (Nat×AV)},RepC B G names cl xs→RepC B G' names cl xs
  | [],h=>h
  | (_,_)::_,⟨⟨n,c,o,v,e1,e2,e3,e4,r⟩,h⟩=>⟨⟨n,c,o,v,e1,e2,k _ _ e3,e4,Rep.mono k ka r⟩,RepC.mono k ka h⟩
end
theorem Step.rep {B:Base}{X:Addr→Prop}{G G':St}{h h':Heap}(a:Step B X G h G' h'){x:AV}{v:Value}(r:Rep B G x v):Rep B G' x v:=Rep.mono a.mono (fun q_ q_ e=>a.alAt e) r
theorem Step.repL {B:Base}{X:Addr→Prop}{G G':St}{h h':Heap}(a:Step B X G h G' h'){x:List AV}{v:List Value}(r:RepL B G x v):RepL B G' x v:=RepL.mono a.mono (fun q_ q_ e=>a.alAt e) r
theorem AObjOk.mono {B:Base}{G G':St}{h h':Heap}{p:Addr×Option Addr}(k:∀ b o,G.g b=some o→G'.g b=some o)(ka:∀ (i:Nat) p,G.al[i]? = some p→G'.al[i]? = some p)
    (k1:∀ o,h.get? p.1=some o→h'.get? p.1=some o) (k2:∀ d o,p.2=some d→h.get? d=some o→h'.get? d=some o):∀ {x:AObj},AObjOk B G h p x→AObjOk B G' h' p x
  | .list xs,⟨e,vs,n,g,r⟩=>⟨e,vs,n,k1 _ g,r.mono k ka⟩
  | .inst c fs,⟨d,m,e,g,n,f,y⟩=>⟨d,m,e,k1 _ g,n.at fun o q=>k2 d o e q,fun x=>by
      have:=f x
      cases q:fs x with
      | none=>rw[q] at this;exact this
      | some av=>rw[q] at this;obtain⟨v,a,b⟩:=this;exact⟨v,a,b.mono k ka⟩,y⟩
theorem Inv.keeps {B:Base}{G:St}{H:AH}{h h':Heap}(I:Inv B G H h)(k:∀ b o,(G.g b=some o∨b∈G.adr∨b∈B.tabP)→h.get? b=some o→h'.get? b=some o):Inv B G H h' where
  sub:=fun b o e=>k b o (.inl e) (I.sub b o e)
  old:=I.old
  tabs:=fun q hq=>by
    obtain⟨ps,a,b,c⟩:=I.tabs q hq
    exact⟨ps,k _ _ (.inr (.inr (List.mem_map_of_mem hq))) a,b,c⟩
  tabG:=I.tabG
  len:=I.len
  nod:=I.nod
  off:=fun a ha=>by
    obtain⟨e,t,o,q⟩:=I.off a ha
    exact⟨e,t,o,k a o (.inr (.inl ha)) q⟩
  objs:=fun i o p a b=>AObjOk.mono (fun q_ q_ e=>e) (fun q_ q_ e=>e) (fun o' e=>k _ _ (.inr (.inl (mem_adr1 b))) e) (fun d o' q e=>k _ _ (.inr (.inl (mem_adr2 b q))) e) (I.objs i o p a b)
noncomputable def St.put (G:St)(a:Addr)(o:Obj):St:={ G with g:=fun b=>if b=a then some o else G.g b }
set_option tactic.hygienic true in
theorem Inv.freeze {B:Base}{G:St}{H:AH}{h:Heap}(I:Inv B G H h){a:Addr}{o:Obj}(e:h.get? a=some o)(n:a ∉ G.adr)(t:a ∉ B.tabP)(g:∀ o',G.g a=some o'→o'=o):Inv B (G.put a o) H h where
  sub:=fun b o' q=>by
    simp only[St.put] at q
    split at q
    · rename_i hb;subst hb;cases q;exact e
    · exact I.sub b o' q
  old:=fun b o' q ht=>by
    simp only[St.put]
    split
    · rename_i hb;subst hb;rw[g o' (I.old _ _ q ht)]
    · exact I.old b o' q ht
  tabs:=fun q hq=>by
    obtain⟨ps,a',b,c⟩:=I.tabs q hq
    refine⟨ps,a',b,fun pos cv x=>(c pos cv x).mono fun b o' y=>?_⟩
    simp only[St.put]
    split
    · rename_i hb;subst hb;rw[g o' y]
    · exact y
  tabG:=fun P hP=>by
    simp only[St.put]
    split
    · rename_i hb;subst hb;exact absurd hP t
    · exact I.tabG P hP
  len:=I.len
  nod:=I.nod
  off:=fun b hb=>by
    obtain⟨x,y,z⟩:=I.off b hb
    refine⟨?_,y,z⟩
    simp only[St.put]
    split
    · rename_i q;subst q;exact absurd hb n
    · exact x
  objs:=fun i o' p x y=>AObjOk.mono (G:=G) (G':=G.put a o) (fun b o'' q=>by
    simp only[St.put]
    split
    · rename_i hb;subst hb;rw[g o'' q]
    · exact q) (fun q_ q_ e=>e) (fun q_ q=>q) (fun q_ q_ q_ q=>q) (I.objs i o' p x y)
theorem Inv.lt {B:Base}{G:St}{H:AH}{h:Heap}(I:Inv B G H h){a:Addr}(m:a∈G.adr):a<h.objs.size:=by
  obtain⟨_,_,o,e⟩:=I.off a m
  exact Heap.lt_size e
theorem Inv.tabLt {B:Base}{G:St}{H:AH}{h:Heap}(I:Inv B G H h){a:Addr}(m:a∈B.tabP):a<h.objs.size:=by
  obtain⟨q,hq,rfl⟩:=List.mem_map.mp m
  obtain⟨ps,e,_⟩:=I.tabs q hq
  exact Heap.lt_size e
theorem Inv.gNew {B:Base}{G:St}{H:AH}{h:Heap}(I:Inv B G H h){a:Addr}(m:h.objs.size≤a):G.g a=none:=by
  cases e:G.g a with
  | none=>rfl
  | some o=>exact absurd (Heap.lt_size (I.sub a o e)) (Nat.not_lt.mpr m)
theorem Inv.alloc {B:Base}{G:St}{H:AH}{h:Heap}(I:Inv B G H h)(o:Obj)(hf:o.isFreed=false):Inv B (G.put h.objs.size o) H (h.push o):=by
  have I1:Inv B G H (h.push o):=I.keeps fun b o' q_ e=>Heap.get?_push_of_some _ e
  refine I1.freeze (Heap.get?_push_size _ hf) (fun m=>absurd (I.lt m) (Nat.lt_irrefl _)) (fun m=>absurd (I.tabLt m) (Nat.lt_irrefl _)) fun o' e=>?_
  rw[I.gNew (Nat.le_refl _)] at e;cases e
set_option tactic.hygienic true in
theorem Step.alloc {B:Base}{G:St}{H:AH}{h:Heap}(I:Inv B G H h)(o:Obj):Step B Pure G h (G.put h.objs.size o) (h.push o) where
  live:=fun b o' q_ e=>⟨o',Heap.get?_push_of_some _ e⟩
  mono:=fun b o' e=>by
    simp only[St.put]
    split
    · rename_i q;subst q;rw[I.gNew (Nat.le_refl _)] at e;cases e
    · exact e
  ext:=fun b o' hb q_=>by
    simp only[St.put]
    rw[if_neg (Nat.ne_of_lt (Heap.lt_size hb))]
  al:=⟨[],(List.append_nil _).symm,fun q_ hm=>nomatch hm⟩
  keep:=fun b o' q_ q_ q_ e=>Heap.get?_push_of_some _ e
theorem St.put_at (G:St)(a:Addr)(o:Obj):(G.put a o).g a=some o:=by simp[St.put]
theorem Step.priv {B:Base}{G:St}{h h':Heap}(k:∀ b o,h.get? b=some o→h'.get? b=some o):Step B Pure G h G h' :=
  ⟨fun b o q_ e=>⟨o,k b o e⟩,fun q_ q_ e=>e,fun q_ q_ q_ q_=>rfl,⟨[],(List.append_nil _).symm,fun q_ hm=>nomatch hm⟩,fun b o q_ q_ q_ e=>k b o e⟩
end
section
open PySem PySem.W PyProof.Rows PySem.Calls
structure BaseOk (B:Base):Prop where
  glb:B.h₀.Ns mainGlobals B.mg
  blt:B.h₀.Ns builtinsNs B.mb
  glbT:mainGlobals ∉ B.tabP
  bltT:builtinsNs ∉ B.tabP
  lim:B.h₀.NoLimit
  limT:cStatics ∉ B.tabP
  val:∀ (k:Nat) v,B.Gl.val k=some v→∃ n u,B.T.gnames[k]? = some n∧(B.mg (toS n)=some u∨(B.mg (toS n)=none∧B.mb (toS n)=some u)) ∧
    ∀ G:St,(∀ b o,B.h₀.get? b=some o→b ∉ B.tabP→G.g b=some o)→Rep B G v u
structure Room (A:Around)(n:Nat):Prop where
  depth:A.depth+n<recursionLimit
  units:A.units+8 * n+8<cLine
  handled:A.handled=none
noncomputable def CelOk (B:Base)(G:St)(h:Heap)(sc:Scope)(env:Env)(x:Str)(c:Addr):Option (Option AV)→Prop
  | some (some v)=>∃ o u,G.g c=some o∧o.data = .cell (some u)∧Rep B G v u
  | _=>jH sc x .cell=true∧(∃ o,h.get? c=some o∧o.data = .cell none)∧G.g c=none∧c ∉ G.adr∧c ∉ B.tabP∧c≠env.locals
noncomputable def Own (sc:Scope)(env:Env)(a:Addr):Prop:=a=env.locals∨∃ x,jH sc x .cell=true∧env.cells.lookup x=some a
structure FrOK (B:Base)(T:Tabs)(sc:Scope)(ns:List (List Nat))(env:Env)(F:AF)(G:St)(h:Heap):Prop where
  tg:T.gnames=B.T.gnames
  tm:T.mnames=B.T.mnames
  kl:∀ x,jH sc x .local=true→env.kindOf x=some .local
  kc:∀ x,jH sc x .cell=true→env.kindOf x=some .cell
  kf:∀ x,jH sc x .free=true→env.kindOf x=some .free∨env.kindOf x=some .cell
  kg:∀ x,jH sc x .globalImplicit=true→env.kindOf x=some .globalImplicit
  kind:env.scope.kind = .function
  glb:env.globals=mainGlobals
  blt:env.builtins=builtinsNs
  nod:ns.Nodup
  len:F.length=ns.length
  lg:G.g env.locals=none
  la:env.locals ∉ G.adr
  lt:env.locals ∉ B.tabP
  loc:∃ m,h.Ns env.locals m∧∀ (i:Nat) n,ns[i]? = some n→jH sc (toS n) .local=true→∀ v,F[i]? = some (some v)→∃ u,m (toS n)=some u∧Rep B G v u
  cel:∀ (i:Nat) n,ns[i]? = some n→(jH sc (toS n) .cell=true∨jH sc (toS n) .free=true)→∃ c,env.cells.lookup (toS n)=some c∧CelOk B G h sc env (toS n) c F[i]?
  own:∀ a,Own sc env a→∃ o,h.get? a=some o
  apart:∀ x y c,jH sc x .cell=true→jH sc y .cell=true→env.cells.lookup x=some c→env.cells.lookup y=some c→x=y
  site:∀ w,T.sfx=some w→∃ q∈B.tabs,env.code = .ref q.1∧B.siteQ q.1=env.qual++toS w
  tl:∀ k n a b s,T.lamE k n a b s=true→B.T.lamE k n a b s=true
  ts:∀ k n a b s,T.lamS k n a b s=true→B.T.lamS k n a b s=true
theorem not_new {B:Base}{X:Addr→Prop}{G G':St}{h h':Heap}(st:Step B X G h G' h'){a:Addr}{o:Obj}(n:a ∉ G.adr)(hX:¬ X a)(l:h.get? a=some o):a ∉ G'.adr:=by
  obtain⟨k,e,hk⟩:=st.al
  unfold St.adr
  rw[e,adrOf_append]
  intro m
  rcases List.mem_append.mp m with m | m
  · exact n m
  · rw[hk a m hX] at l;cases l
theorem FrOK.stepX {B:Base}{T:Tabs}{sc:Scope}{ns:List (List Nat)}{env:Env}{F:AF}{G G':St}{h h':Heap}{X:Addr→Prop}(f:FrOK B T sc ns env F G h)(st:Step B X G h G' h')(ox:∀ a,Own sc env a→¬ X a):FrOK B T sc ns env F G' h' where
  tg:=f.tg
  tm:=f.tm
  kl:=f.kl
  kc:=f.kc
  kf:=f.kf
  kg:=f.kg
  kind:=f.kind
  glb:=f.glb
  blt:=f.blt
  nod:=f.nod
  len:=f.len
  lg :=by
    refine via fun R_ k_=>?_
    obtain⟨m,hn,_⟩:=f.loc
    obtain⟨o,_,_,e,_⟩:=hn
    refine k_ ?_
    rw[st.ext _ o e (ox _ (.inl rfl))];exact f.lg
  la :=by
    refine via fun R_ k_=>?_
    obtain⟨m,hn,_⟩:=f.loc
    obtain⟨o,_,_,e,_⟩:=hn
    refine k_ ?_
    exact not_new st f.la (ox _ (.inl rfl)) e
  lt:=f.lt
  loc:=by
    refine via fun R_ k_=>?_
    obtain⟨m,hn,hm⟩:=f.loc
    obtain⟨o,es,ep,e,r⟩:=hn
    refine k_ ?_
    refine⟨m,⟨o,es,ep,st.keep _ _ (ox _ (.inl rfl)) f.la f.lt e,r⟩,fun i n a b v c=>?_⟩
    obtain⟨u,x,y⟩:=hm i n a b v c
    exact⟨u,x,st.rep y⟩
  cel := fun i n a b=>by
    obtain⟨c,e,q⟩:=f.cel i n a b
    refine⟨c,e,?_⟩
    cases hF:F[i]? with
    | none =>
      rw[hF] at q
      refine via fun R_ k_=>?_
      obtain⟨k,⟨o,hc,hd⟩,g,x,y,z⟩:=q
      refine k_ ?_
      exact⟨k,⟨o,st.keep _ _ (ox _ (.inr ⟨_,k,e⟩)) x y hc,hd⟩,(st.ext _ _ hc (ox _ (.inr ⟨_,k,e⟩))).trans g,not_new st x (ox _ (.inr ⟨_,k,e⟩)) hc,y,z⟩
    | some w =>
      cases w with
      | none =>
        rw[hF] at q
        refine via fun R_ k_=>?_
        obtain⟨k,⟨o,hc,hd⟩,g,x,y,z⟩:=q
        refine k_ ?_
        exact⟨k,⟨o,st.keep _ _ (ox _ (.inr ⟨_,k,e⟩)) x y hc,hd⟩,(st.ext _ _ hc (ox _ (.inr ⟨_,k,e⟩))).trans g,not_new st x (ox _ (.inr ⟨_,k,e⟩)) hc,y,z⟩
      | some v =>
        rw[hF] at q
        refine via fun R_ k_=>?_
        obtain⟨o,u,g,d,r⟩:=q
        refine k_ ?_
        exact⟨o,u,st.mono _ _ g,d,st.rep r⟩
  own:=fun a ha=>(f.own a ha).elim fun o e=>st.live a o (ox a ha) e
  apart:=f.apart
  site:=f.site
  tl:=f.tl
  ts:=f.ts
theorem FrOK.step {B:Base}{T:Tabs}{sc:Scope}{ns:List (List Nat)}{env:Env}{F:AF}{G G':St}{h h':Heap}(f:FrOK B T sc ns env F G h)(st:Step B Pure G h G' h'):FrOK B T sc ns env F G' h' :=
  f.stepX st fun q_ q_ q=>q
theorem Inv.ns {B:Base}{G:St}{H:AH}{h:Heap}(I:Inv B G H h){a:Addr}{m:Str→Option Value}(t:a ∉ B.tabP)(n:B.h₀.Ns a m):h.Ns a m:=by
  refine via fun R_ k_=>?_
  obtain⟨o,es,ep,e,r⟩:=n
  refine k_ ?_
  exact⟨o,es,ep,I.sub _ _ (I.old _ _ e t),r⟩
theorem Inv.noLimit {B:Base}{G:St}{H:AH}{h:Heap}(O:BaseOk B)(I:Inv B G H h):h.NoLimit:=by
  obtain⟨mc,n,e⟩:=O.lim
  exact⟨mc,I.ns O.limT n,e⟩
section
variable (B:Base)(A:Around)
noncomputable def Ev {α β:Type}(P:St→Heap→Prop)(t:Sem β)(R:St→α→β→Prop)(m:AM α):Prop :=
  ∀ (s:Shared) (G:St) (H:AH) (x:α) (H':AH),P G s.heap→Inv B G H s.heap→m H=some (x,H') →
  ∀ (Q:β→Shared→Prop) (E:Value→Shared→Prop),(∀ v G' h' tk',Step B Pure G s.heap G' h'→Inv B G' H' h'→P G' h'→R G' x v→Q v { s with heap:=h',toks:=tk' }) →
  wpAny (model B.prog B.w) A t Q E s
end
inductive BindR {α β:Type}(m:AM α)(f:α→AM β)(H:AH)(r:β×AH):Prop
  | mk (x:α) (H1:AH) (e1:m H=some (x,H1)) (e2:f x H1=some r)
theorem zJ {α β:Type}{m:AM α}{f:α→AM β}{H:AH}{r:β×AH}(e:zZ m f H=some r):BindR m f H r:=by
  unfold zZ at e
  cases q:m H with
  | none=>rw[q] at e;cases e
  | some p =>
    rw[q] at e
    exact⟨p.1,p.2,q,e⟩
theorem ZW {α:Type}{o:Option α}{H H':AH}{x:α}(e:jW o H=some (x,H')):o=some x∧H'=H:=by
  cases o with
  | none=>cases e
  | some y=>cases e;exact⟨rfl,rfl⟩
theorem zF {α:Type}{y:α}{H H':AH}{x:α}(e:zH y H=some (x,H')):y=x∧H'=H:=by
  cases e;exact⟨rfl,rfl⟩
section
variable {B:Base}{A:Around}{T:Tabs}{sc:Scope}{ns:List (List Nat)}{env:Env}{F:AF}
noncomputable abbrev EvE (B:Base)(A:Around)(T:Tabs)(sc:Scope)(ns:List (List Nat))(env:Env)(F:AF)(e:Expr)(m:AM AV):Prop :=
  Ev B A (FrOK B T sc ns env F) (eval e env) (Rep B) m
theorem ev_none {k:Nat}{p:Pos}:EvE B A T sc ns env F (.Constant .none k p) (zH .none):=fun s G H x H' hP I e Q E hQ=>by
  obtain⟨rfl,rfl⟩:=zF e
  exact wpAny_Constant_none (hQ .none G s.heap s.toks (Step.refl ..) I hP rfl)
theorem ev_bool {k:Nat}{p:Pos}{b:Bool}:EvE B A T sc ns env F (.Constant (.bool b) k p) (zH (.bool b)):=fun s G H x H' hP I e Q E hQ=>by
  obtain⟨rfl,rfl⟩:=zF e
  exact wpAny_Constant_bool (hQ (.bool b) G s.heap s.toks (Step.refl ..) I hP rfl)
theorem ev_int {k:Nat}{p:Pos}{i:Int}:EvE B A T sc ns env F (.Constant (.int i) k p) (zH (.int i)):=fun s G H x H' hP I e Q E hQ=>by
  obtain⟨rfl,rfl⟩:=zF e
  exact wpAny_Constant_int (hQ _ G s.heap _ (Step.refl ..) I hP ⟨_,rfl⟩)
theorem ev_str {k:Nat}{p:Pos}{cs:List Nat}{x:Str}(hx:isS cs x=true):EvE B A T sc ns env F (.Constant (.str x) k p) (zH (.str cs)):=fun s G H y H' hP I e Q E hQ=>by
  obtain⟨rfl,rfl⟩:=zF e
  rw[isS_eq hx]
  exact wpAny_Constant_str (hQ _ G s.heap _ (Step.refl ..) I hP ⟨_,rfl⟩)
theorem ev_var {i:Nat}{n:List Nat}{x:Str}{p:Pos}(hn:ns[i]? = some n)(hx:isS n x=true)(hk:inFrame sc x=true)(h1:(x==("__debug__" : Str))=false)(h2:(x==("__classdict__" : Str))=false) :
    EvE B A T sc ns env F (.Name x p) (jW (F[i]?.join)):=fun s G H y H' hP I e Q E hQ=>by
  obtain⟨e1,rfl⟩:=ZW e
  have eF:F[i]? = some (some y):=by
    cases q:F[i]? with
    | none=>rw[q] at e1;cases e1
    | some w=>rw[q] at e1;cases w with
      | none=>cases e1
      | some z=>cases e1;rfl
  have hx':=isS_eq hx
  subst hx'
  refine wpAny_Name ?_ h1
  have done:∀ v,Rep B G y v→Q v s:=fun v r=>hQ v G s.heap s.toks (Step.refl ..) I hP r
  unfold inFrame at hk
  simp only[Bool.or_eq_true] at hk
  rcases hk with(hk | hk) | hk
  · refine via fun R_ k_=>?_
    obtain⟨m,hm,hl⟩:=hP.loc
    obtain⟨u,a,b⟩:=hl i n hn hk y eF
    refine k_ ?_
    exact wpAny_loadName_local hP.kind (hP.kl _ hk) hm a (done u b)
  · obtain⟨c,e2,q⟩:=hP.cel i n hn (.inl hk)
    rw[eF] at q
    refine via fun R_ k_=>?_
    obtain⟨o,u,g,d,r⟩:=q
    refine k_ ?_
    exact wpAny_loadName_cell hP.kind (hP.kc _ hk) e2 ⟨o,I.sub _ _ g,d⟩ (done u r)
  · obtain⟨c,e2,q⟩:=hP.cel i n hn (.inr hk)
    rw[eF] at q
    refine via fun R_ k_=>?_
    obtain⟨o,u,g,d,r⟩:=q
    refine k_ ?_
    rcases hP.kf _ hk with k | k
    · exact wpAny_loadName_free hP.kind k e2 ⟨o,I.sub _ _ g,d⟩ (done u r) h2
    · exact wpAny_loadName_cell hP.kind k e2 ⟨o,I.sub _ _ g,d⟩ (done u r)
theorem ev_gl (O:BaseOk B){k:Nat}{n:List Nat}{x:Str}{p:Pos}(hn:T.gnames[k]? = some n)(hx:isS n x=true)(hk:jH sc x .globalImplicit=true)(h1:(x==("__debug__" : Str))=false) :
    EvE B A T sc ns env F (.Name x p) (jW (B.Gl.val k)):=fun s G H y H' hP I e Q E hQ=>by
  obtain⟨e1,rfl⟩:=ZW e
  obtain⟨n',u,a,b,r⟩:=O.val k y e1
  rw[hP.tg] at hn
  rw[hn] at a;cases a
  have hx':=isS_eq hx
  subst hx'
  refine wpAny_Name ?_ h1
  rw[loadName_read hP.kind (hP.kg _ hk)]
  have q:=hQ u G s.heap s.toks (Step.refl ..) I hP (r G I.old)
  have g1:s.heap.Ns env.globals B.mg:=hP.glb▸I.ns O.glbT O.glb
  have g2:s.heap.Ns env.builtins B.mb:=hP.blt▸I.ns O.bltT O.blt
  rcases b with b | ⟨b1,b2⟩
  · exact loadGlobal_global g1 b q
  · exact loadGlobal_builtin g1 b1 g2 b2 q
theorem starEach_cons {x:Expr}{xs:List Expr}(h:isStar x=false):starEach (x::xs) env=(false,eval x env)::starEach xs env:=by
  cases x <;> first | rfl | cases h
noncomputable abbrev EvL (B:Base)(A:Around)(T:Tabs)(sc:Scope)(ns:List (List Nat))(env:Env)(F:AF)(p:Pos)(es:List Expr)(m:AM (List AV)):Prop :=
  Ev B A (FrOK B T sc ns env F) (spliced (backTo p (starEach es env))) (RepL B) m
theorem evl_nil {p:Pos}:EvL B A T sc ns env F p [] (zH []):=fun s G H x H' hP I e Q E hQ=>by
  obtain⟨rfl,rfl⟩:=zF e
  exact wpAny_items_nil (hQ [] G s.heap s.toks (Step.refl ..) I hP rfl)
theorem evl_cons {p:Pos}{e:Expr}{es:List Expr}{m:AM AV}{ms:AM (List AV)}(hs:isStar e=false)(h:EvE B A T sc ns env F e m)(hr:EvL B A T sc ns env F p es ms) :
    EvL B A T sc ns env F p (e::es) (zZ m fun x=>zZ ms fun xs=>zH (x::xs)):=fun s G H x H' hP I eq Q E hQ=>by
  obtain⟨y,H1,e1,eq⟩:=zJ eq
  obtain⟨ys,H2,e2,eq⟩:=zJ eq
  obtain⟨rfl,rfl⟩:=zF eq
  refine wpAny_items_cons (h s G H y H1 hP I e1 _ _ fun v G1 h1 t1 s1 I1 P1 r1=>?_) (starEach_cons hs)
  exact hr _ G1 H1 ys _ P1 I1 e2 _ _ fun vs G2 h2 t2 s2 I2 P2 r2=>hQ _ G2 h2 t2 (s1.trans s2) I2 P2 ⟨v,vs,rfl,s2.rep r1,r2⟩
theorem RepL.len {G:St}:∀ {xs:List AV}{vs:List Value},RepL B G xs vs→vs.length=xs.length
  | [],_,h=>by rw[show _=[] from h];rfl
  | _::_,_,⟨v,r,e,_,b⟩=>by rw[e,List.length_cons,List.length_cons,b.len]
theorem ev_tup {p:Pos}{k:Nat}{es:List Expr}{ms:AM (List AV)}(h:EvL B A T sc ns env F p es ms)(hl:∀ H xs H',ms H=some (xs,H')→xs.length≤1000) :
    EvE B A T sc ns env F (.Tuple es k p) (zZ ms fun xs=>zH (.tup xs)):=fun s G H x H' hP I eq Q E hQ=>by
  obtain⟨xs,H1,e1,eq⟩:=zJ eq
  obtain⟨rfl,rfl⟩:=zF eq
  refine wpAny_Tuple (h s G H xs _ hP I e1 _ _ fun vs G1 h1 t1 s1 I1 P1 r1=>⟨?_,?_⟩)
  · have:=hl _ _ _ e1
    rw[r1.len]
    have:sizeLine=2 ^ 24:=rfl
    omega
  · have s2:=Step.alloc I1 (tplO vs.toArray 0)
    exact hQ _ _ _ _ (s1.trans s2) (I1.alloc _ rfl) (P1.step s2) ⟨_,vs.toArray,0,rfl,St.put_at ..,s2.repL r1⟩
end
end
section
open PySem PySem.W PyProof.Rows PySem.Calls
open AutoSeq1 (wpAny_loadPart')
theorem fmod_pos {a b:Int}(h:0<b):Int.fmod a b=a % b:=by
  rw[Int.fmod_eq_emod_of_nonneg _ (Int.le_of_lt h)]
theorem fdiv_pos {a b:Int}(h:0<b):Int.fdiv a b=a / b:=by
  rw[Int.fdiv_eq_ediv_of_nonneg _ (Int.le_of_lt h)]
theorem repL_append {B:Base}{G:St}:∀ {xs ys:List AV}{vs ws:List Value},RepL B G xs vs→RepL B G ys ws→RepL B G (xs++ys) (vs++ws)
  | [],_,_,_,h,k=>by rw[show _=[] from h];exact k
  | _::_,_,_,_,⟨v,r,e,a,b⟩,k=>by rw[e];exact⟨v,r++_,rfl,a,repL_append b k⟩
theorem repL_rep {B:Base}{G:St}{xs:List AV}{vs:List Value}(h:RepL B G xs vs):∀ n:Nat,RepL B G (List.replicate n xs).flatten (List.replicate n vs).flatten
  | 0=>by show RepL B G [] [];exact(rfl:([]:List Value)=[])
  | n+1=>by
    rw[List.replicate_succ,List.replicate_succ,List.flatten_cons,List.flatten_cons]
    exact repL_append h (repL_rep h n)
theorem foldl_app {α:Type}(xs:Array α):∀ (n:Nat)(acc:Array α),(List.foldl (fun x1 x2=>x1++x2) acc (List.replicate n xs)).toList=acc.toList++(List.replicate n xs.toList).flatten
  | 0,acc=>by simp
  | n+1,acc=>by
    rw[List.replicate_succ,List.foldl_cons,foldl_app xs n]
    simp[List.replicate_succ]
theorem noFill_tuple_mul:fillsNumberSlot (.type "tuple") "mul" = pure false :=
  PySem.fillsNumberSlot_seq (id := "tuple.__mul__") (r:=some (.builtin "tuple.__rmul__")) F.slot_tuple_mul.lookup (by decide +kernel) F.slot_tuple_rmul.lookup (by decide +kernel)
theorem repeat_tuple:seqRepeat? (.type "tuple")=pure (some (.builtin "tuple.__mul__")):=by
  unfold seqRepeat?
  rw[PySem.seqSlot_of (T := "tuple") (name := "__mul__") (id := "tuple.__mul__") F.slot_tuple_mul.lookup (by decide +kernel),PySem.seqSlot_of (T := "tuple") (name := "__rmul__") (id := "tuple.__rmul__") F.slot_tuple_rmul.lookup (by decide +kernel)]
  rfl
theorem tuple_mul_same (l:Addr)(items:Array Value)(n:Nat)(x:Int)(u:Tok) (h0 : -(2 ^ 63)≤x)(h0':x<2 ^ 63)(h1:(items.isEmpty||x==1)=true) :
    Meets (Builtin.«tuple.__mul__» ⟨[.ref l,.int x u],[]⟩) (fun q_ R s=>s.heap.get? l=some { cls := .type "tuple",dict:=none,data := .seq items n,slots := #[] }∧R (.ok (.ret (Value.ref l))) { s with heap:=s.heap,toks:=s.toks }) :=
  .of_wp fun prog w A R s h=>by
    obtain⟨hp,g,d,tk,os⟩:=s;obtain⟨hl,h⟩:=h;have f1:=AutoSeq1.idx_int;have f2:=AutoSeq1.sub_tuple_tuple
    wp_walk using wpAny_loadPart' hl
    refine wpAny_ite_false (decide_eq_false (by simp only[Bool.or_eq_true,decide_eq_true_eq,not_or];omega)) ?_
    wp_walk using wpAny_loadPart' hl
    exact⟨_,rfl,h⟩
theorem tuple_mul_none (l:Addr)(items:Array Value)(n:Nat)(x:Int)(u:Tok) (h0 : -(2 ^ 63)≤x)(h1:¬ (items.isEmpty||x==1)=true)(h2:x≤0) :
    Meets (Builtin.«tuple.__mul__» ⟨[.ref l,.int x u],[]⟩) (fun q_ R s=>s.heap.get? l=some { cls := .type "tuple",dict:=none,data := .seq items n,slots := #[] }∧R (.ok (.ret (Value.ref s.heap.objs.size))) { s with heap:=s.heap.push { cls := .type "tuple",data := .seq #[] },toks:=s.toks }) :=
  .of_wp fun prog w A R s h=>by
    obtain⟨hp,g,d,tk,os⟩:=s;obtain⟨hl,h⟩:=h;have f1:=AutoSeq1.idx_int;have f2:=AutoSeq1.sub_tuple_tuple
    wp_walk using wpAny_loadPart' hl
    refine wpAny_ite_false (decide_eq_false (by simp only[Bool.or_eq_true,decide_eq_true_eq,not_or];omega)) ?_
    wp_walk using wpAny_loadPart' hl
    exact⟨_,rfl,h⟩
theorem tuple_mul_some (l:Addr)(items:Array Value)(n:Nat)(x:Int)(u:Tok)(h1:¬ (items.isEmpty||x==1)=true)(h2:0<x)(h3:items.size≤8)(h4:x≤1000) :
    Meets (Builtin.«tuple.__mul__» ⟨[.ref l,.int x u],[]⟩) (fun q_ R s=>s.heap.get? l=some { cls := .type "tuple",dict:=none,data := .seq items n,slots := #[] }∧R (.ok (.ret (Value.ref s.heap.objs.size))) { s with heap:=s.heap.push { cls := .type "tuple",data := .seq (List.foldl (fun x1 x2=>x1++x2) #[] (List.replicate x.toNat items)) },toks:=s.toks }) :=
  .of_wp fun prog w A R s h=>by
    obtain⟨hp,g,d,tk,os⟩:=s;obtain⟨hl,h⟩:=h;have f1:=AutoSeq1.idx_int;have f2:=AutoSeq1.sub_tuple_tuple
    have e:items.isEmpty=false:=by
      cases q:items.isEmpty with
      | true=>rw[q] at h1;exact absurd rfl h1
      | false=>rfl
    have hb:(items.size:Int) * x≤8000:=by
      have:(items.size:Int) * x≤8 * x:=Int.mul_le_mul_of_nonneg_right (by omega) (by omega)
      omega
    have hs:(List.foldl (fun x1 x2=>x1++x2) #[] (List.replicate x.toNat items)).size≤sizeLine:=by
      rw[AutoListH.size_joined,sizeLine_eq]
      have:x.toNat * items.size≤1000 * 8:=Nat.mul_le_mul (by omega) h3
      simp only[Array.size_empty];omega
    wp_walk using wpAny_loadPart' hl
    refine wpAny_ite_false (decide_eq_false (by simp only[Bool.or_eq_true,decide_eq_true_eq,not_or];omega)) ?_
    wp_walk using wpAny_loadPart' hl
    refine wpAny_ite_false (decide_eq_false (by omega)) ?_
    wp_walk using wpAny_loadPart' hl
    refine wpAny_ite_false (decide_eq_false (by omega)) ?_
    wp_walk using wpAny_loadPart' hl
    refine wpAny_ite_false (decide_eq_false (fun q=>absurd (of_decide_eq_true q) (by rw[sizeLine_eq];omega))) ?_
    wp_walk using wpAny_loadPart' hl
    exact⟨_,rfl,h⟩
end
section
open PySem PySem.W PyProof.Rows PySem.Calls
open AutoSeq1 (wpAny_loadPart')
theorem int___rmul___int_tuple (a:Int)(t:Tok)(l:Addr)(items:Array Value)(n:Nat) :
    Meets (Builtin.«int.__rmul__» ⟨[.int a t,.ref l],[]⟩) (fun q_ R s=>s.heap.get? l=some { cls := .type "tuple",dict:=none,data := .seq items n,slots := #[] }∧R (.ok (.ret Value.notImplemented)) s) :=
  .of_wp fun prog w A R s h=>by obtain⟨hp,g,d,tk,os⟩:=s;obtain⟨hl,h⟩:=h;wp_walk;exact⟨_,rfl,h⟩
theorem nos {α:Type}{P:Prop}{z:α}(h:(none:Option α)=some z):P:=nomatch h
theorem wJ {b:Prop} [Decidable b]{α:Type}{x y:α}(h:aif b x=some y):b∧x=y:=by
  unfold aif at h
  by_cases q:b
  · rw[if_pos q] at h;cases h;exact⟨q,rfl⟩
  · rw[if_neg q] at h;cases h
inductive MapR {α β:Type}(o:Option α)(f:α→β)(z:β):Prop
  | mk (a:α) (e:o=some a) (e2:f a=z)
theorem wA {α β:Type}{o:Option α}{f:α→β}{z:β}(h:o.map f=some z):MapR o f z:=(Option.map_eq_some_iff.mp h).elim fun a h=>⟨a,h.1,h.2⟩
theorem bind_some {α β:Type}{o:Option α}{f:α→Option β}{z:β}(h:o.bind f=some z):MapR o f (some z):=(Option.bind_eq_some_iff.mp h).elim fun a h=>⟨a,h.1,h.2⟩
theorem truthA_some:∀ {v:AV}{b:Bool},wH v=some b→v = .bool b:=fun {v i} h=>by
  cases v with
  | bool j=>exact congrArg AV.bool (Option.some.inj h)
  | _=>exact nos h
theorem wF:∀ {v:AV}{i:Int},wY v=some i→v = .int i:=fun {v i} h=>by
  cases v with
  | int j=>exact congrArg AV.int (Option.some.inj h)
  | _=>exact nos h
theorem toStr_some:∀ {v:AV}{i:List Nat},toStr v=some i→v = .str i:=fun {v i} h=>by
  cases v with
  | str j=>exact congrArg AV.str (Option.some.inj h)
  | _=>exact nos h
theorem toTup_some:∀ {v:AV}{i:List AV},toTup v=some i→v = .tup i:=fun {v i} h=>by
  cases v with
  | tup j=>exact congrArg AV.tup (Option.some.inj h)
  | _=>exact nos h
theorem toLst_some:∀ {v:AV}{i:List AV},toLst v=some i→v = .lst i:=fun {v i} h=>by
  cases v with
  | lst j=>exact congrArg AV.lst (Option.some.inj h)
  | _=>exact nos h
theorem toObj_some:∀ {v:AV}{i:Nat},toObj v=some i→v = .obj i:=fun {v i} h=>by
  cases v with
  | obj j=>exact congrArg AV.obj (Option.some.inj h)
  | _=>exact nos h
theorem isNone_eq:∀ {v:AV},v.isNone=true→v = .none:=fun {v} h=>by
  cases v with
  | none=>rfl
  | _=>exact bad h
theorem one_some:∀ {xs:List AV}{x:AV},one xs=some x→xs=[x]
  | [_],_,h=>by cases h;rfl
theorem two_some:∀ {xs:List AV}{x:AV×AV},two xs=some x→xs=[x.1,x.2]
  | [_,_],_,h=>by cases h;rfl
theorem listAt_some {H:AH}{n:Nat}{xs:List AV}(h:listAt H n=some xs):H[n]? = some (.list xs):=by
  unfold listAt at h
  revert h
  cases H[n]? with
  | none=>exact fun h=>nos h
  | some o=>cases o with
    | list ys=>exact fun h=>by cases h;rfl
    | inst c f=>exact fun h=>nos h
noncomputable def Yields (B:Base)(A:Around)(t:Sem Value)(G:St)(H H':AH)(z:AV)(s:Shared):Prop :=
  ∀ (Q:Value→Shared→Prop) (E:Value→Shared→Prop),(∀ v G' h' tk',Step B Pure G s.heap G' h'→Inv B G' H' h'→Rep B G' z v→Q v { s with heap:=h',toks:=tk' }) →
    wpAny (model B.prog B.w) A t Q E s
section
variable {B:Base}{A:Around}{G:St}{H:AH}{s:Shared}
theorem yields_val {t:Sem Value}{z:AV}{v:Value}(I:Inv B G H s.heap)(r:Rep B G z v)
    (h:∀ (Q:Value→Shared→Prop) (E:Value→Shared→Prop),(∀ tk,Q v { s with toks:=tk })→wpAny (model B.prog B.w) A t Q E s):Yields B A t G H H z s:=fun Q E hQ =>
  h Q E fun tk=>hQ v G s.heap tk (Step.refl ..) I r
theorem ZA {t:Sem Value}{z:Int}(I:Inv B G H s.heap)
    (h:∀ (Q:Value→Shared→Prop) (E:Value→Shared→Prop),(∀ u tk,Q (.int z u) { s with toks:=tk })→wpAny (model B.prog B.w) A t Q E s):Yields B A t G H H (.int z) s:=fun Q E hQ =>
  h Q E fun u tk=>hQ _ G s.heap tk (Step.refl ..) I ⟨u,rfl⟩
theorem yields_str {t:Sem Value}{z:List Nat}(I:Inv B G H s.heap)
    (h:∀ (Q:Value→Shared→Prop) (E:Value→Shared→Prop),(∀ u tk,Q (.str (toS z) u) { s with toks:=tk })→wpAny (model B.prog B.w) A t Q E s):Yields B A t G H H (.str z) s:=fun Q E hQ =>
  h Q E fun u tk=>hQ _ G s.heap tk (Step.refl ..) I ⟨u,rfl⟩
theorem yields_tup {t:Sem Value}{z:List AV}{vs:Array Value}(I:Inv B G H s.heap)(r:RepL B G z vs.toList)
    (h:∀ (Q:Value→Shared→Prop) (E:Value→Shared→Prop),(∀ tk,Q (.ref s.heap.objs.size) { s with heap:=s.heap.push (tplO vs 0),toks:=tk })→wpAny (model B.prog B.w) A t Q E s):Yields B A t G H H (.tup z) s:=fun Q E hQ =>
  h Q E fun tk=>by
    have st:=Step.alloc I (tplO vs 0)
    exact hQ _ _ _ _ st (I.alloc _ rfl) ⟨_,vs,0,rfl,St.put_at ..,st.repL r⟩
theorem yields_lst {t:Sem Value}{z:List AV}{vs:Array Value}(I:Inv B G H s.heap)(r:RepL B G z vs.toList)
    (h:∀ (Q:Value→Shared→Prop) (E:Value→Shared→Prop),(∀ tk,Q (.ref s.heap.objs.size) { s with heap:=s.heap.push (lstO vs 0),toks:=tk })→wpAny (model B.prog B.w) A t Q E s):Yields B A t G H H (.lst z) s:=fun Q E hQ =>
  h Q E fun tk=>by
    have st:=Step.alloc I (lstO vs 0)
    exact hQ _ _ _ _ st (I.alloc _ rfl) ⟨_,vs,0,rfl,St.put_at ..,st.repL r⟩
theorem toS_append (a b:List Nat):toS a++toS b=toS (a++b):=by
  show(⟨a.toArray++b.toArray⟩:Str)=⟨(a++b).toArray⟩
  simp
theorem ZF (a:List Nat):(toS a).length=a.length:=by
  show a.toArray.size=a.length
  simp
theorem op2_eq {o:Op2}{p:Operator}(h:op2 o p=true):p=o.op:=of_decide_eq_true h
theorem ZQ {xs:List AV}{vs:Array Value}(r:RepL B G xs vs.toList):vs.size=xs.length:=by
  rw[←r.len,Array.length_toList]
theorem add_tup {a b:List AV}{v w:Value}(hb:a.length+b.length≤1048576)(I:Inv B G H s.heap)(rx:Rep B G (.tup a) v)(ry:Rep B G (.tup b) w):Yields B A (binaryOp .Add v w) G H H (.tup (a++b)) s:=by
  obtain⟨l,vs,n,rfl,g,r⟩:=rx
  obtain⟨b,ws,k,rfl,g',r'⟩:=ry
  have ho:=I.sub _ _ g
  have ho2:=I.sub _ _ g'
  have z1:=ZQ r
  have z2:=ZQ r'
  have road:=fun {S:PySem.Spec} {Q E:Value→Shared→Prop}=>concat_meets (prog:=B.prog) (w:=B.w) (A:=A) (s:=s) (a := .ref l) (b := .ref b) (T := "tuple") (S:=S) (Q:=Q) (E:=E) ⟨_,ho,rfl⟩ ⟨_,ho2,rfl⟩ noFill_tuple_add seq_tuple_add PySem.F.slot_tuple_add PySem.F.entry_tuple_add (PySem.F.args_tuple_add_2 _ _)
  by_cases h0:vs.isEmpty=true
  · refine yields_val I (v := .ref b) ⟨b,ws,k,rfl,g',?_⟩ fun Q E hQ=>road (tuple_addW0 l b vs ws n k none none #[] #[] h0) ⟨ho,ho2,hQ s.toks⟩
    rw[Array.isEmpty_iff_size_eq_zero] at h0
    have:vs.toList=[]:=by rw[←List.length_eq_zero_iff,Array.length_toList];exact h0
    rw[this] at r
    have:=repL_append r r'
    rwa [List.nil_append] at this
  · by_cases h1:ws.isEmpty=true
    · refine yields_val I (v := .ref l) ⟨l,vs,n,rfl,g,?_⟩ fun Q E hQ=>road (tuple_addW1 l b vs ws n k none none #[] #[] h0 h1) ⟨ho,ho2,hQ s.toks⟩
      rw[Array.isEmpty_iff_size_eq_zero] at h1
      have:ws.toList=[]:=by rw[←List.length_eq_zero_iff,Array.length_toList];exact h1
      rw[this] at r'
      have:=repL_append r r'
      rwa [List.append_nil] at this
    · exact yields_tup (vs:=vs++ws) I (by rw[Array.toList_append];exact repL_append r r') fun Q E hQ=>road (tuple_addW2 l b vs ws n k none none #[] #[] h0 h1 (by rw[z1,z2,sizeLine_eq];omega)) ⟨ho,ho2,hQ s.toks⟩
theorem add_lst {a b:List AV}{v w:Value}(hb:a.length+b.length≤1048576)(I:Inv B G H s.heap)(rx:Rep B G (.lst a) v)(ry:Rep B G (.lst b) w):Yields B A (binaryOp .Add v w) G H H (.lst (a++b)) s:=by
  obtain⟨l,vs,n,rfl,g,r⟩:=rx
  obtain⟨b,ws,k,rfl,g',r'⟩:=ry
  have ho:=I.sub _ _ g
  have ho2:=I.sub _ _ g'
  have z1:=ZQ r
  have z2:=ZQ r'
  exact yields_lst (vs:=vs++ws) I (by rw[Array.toList_append];exact repL_append r r') fun Q E hQ =>
        concat_meets ⟨_,ho,rfl⟩ ⟨_,ho2,rfl⟩ noFill_list_add seq_list_add PySem.F.slot_list_add PySem.F.entry_list_add (PySem.F.args_list_add_2 _ _) (list_addW l b vs ws n k none none #[] #[] (by rw[z1,z2,sizeLine_eq];omega)) ⟨ho,ho2,hQ s.toks⟩
theorem few_i {a:Nat}{n:Int}(h:few a n=true):a≤8∧n≤1000∧0≤n:=by
  simp only[few,Bool.and_eq_true,decide_eq_true_eq] at h
  exact⟨h.1.1,h.1.2,h.2⟩
theorem mul_tup {a:List AV}{k:Int}{v w:Value}(b1:a.length≤8)(b2:k≤1000)(b3:0≤k)(I:Inv B G H s.heap)(rx:Rep B G (.tup a) v)(ry:Rep B G (.int k) w):Yields B A (binaryOp .Mult v w) G H H (.tup (rep a k)) s:=by
  obtain⟨l,vs,n,rfl,g,r⟩:=rx
  obtain⟨u,rfl⟩:=ry
  have hl:=I.sub _ _ g
  have z1:=ZQ r
  have road:=fun {Q E:Value→Shared→Prop} hq=>wpAny_binaryOp_repeat_ref (M:=model B.prog B.w) (A:=A) (s:=s) (a := .ref l) (n := .int k u) (Q:=Q) (E:=E) (T := "tuple") (U := "int") (by decide) ⟨_,hl,rfl⟩ (fun s'=>typeIs_int s' k u) noFill_tuple_mul F.fills_int_mul F.slot_int_rmul repeat_tuple F.slot_int_index.lookup
    (call_meets F.slot_int_rmul (typeIs_int s k u) F.entry_int_rmul (F.args_int_rmul_2 _ _) (int___rmul___int_tuple k u l vs n) ⟨hl,rfl,⟨_,hl,rfl⟩,hq⟩)
  by_cases h0:(vs.isEmpty||k==1)=true
  · refine yields_val I (v := .ref l) ⟨l,vs,n,rfl,g,?_⟩ fun Q E hQ=>road (call_meets F.slot_tuple_mul ⟨_,hl,rfl⟩ F.entry_tuple_mul (F.args_tuple_mul_2 _ _) (tuple_mul_same l vs n k u (by omega) (by omega) h0) ⟨hl,hQ s.toks⟩)
    rw[Bool.or_eq_true] at h0
    rcases h0 with h0 | h0
    · rw[Array.isEmpty_iff_size_eq_zero] at h0
      have:vs.toList=[]:=by rw[←List.length_eq_zero_iff,Array.length_toList];exact h0
      have:a=[]:=by rw[←List.length_eq_zero_iff];omega
      subst this
      unfold rep
      simpa using r
    · have:k=1:=by simpa using h0
      subst this
      unfold rep
      simpa using r
  · by_cases h1:k≤0
    · refine yields_tup (vs := #[]) I ?_ fun Q E hQ=>road (call_meets F.slot_tuple_mul ⟨_,hl,rfl⟩ F.entry_tuple_mul (F.args_tuple_mul_2 _ _) (tuple_mul_none l vs n k u (by omega) h0 h1) ⟨hl,hQ s.toks⟩)
      have:k.toNat=0:=by omega
      unfold rep
      rw[this]
      exact(rfl:([]:List Value)=[])
    · refine yields_tup (vs:=List.foldl (fun x1 x2=>x1++x2) #[] (List.replicate k.toNat vs)) I ?_ fun Q E hQ=>road (call_meets F.slot_tuple_mul ⟨_,hl,rfl⟩ F.entry_tuple_mul (F.args_tuple_mul_2 _ _) (tuple_mul_some l vs n k u h0 (by omega) (by omega) (by omega)) ⟨hl,hQ s.toks⟩)
      rw[foldl_app]
      exact repL_rep r _
set_option tactic.hygienic true in
theorem mul_lst {a:List AV}{k:Int}{v w:Value}(b1:a.length≤8)(b2:k≤1000)(b3:0≤k)(I:Inv B G H s.heap)(rx:Rep B G (.lst a) v)(ry:Rep B G (.int k) w):Yields B A (binaryOp .Mult v w) G H H (.lst (rep a k)) s:=by
  obtain⟨l,vs,n,rfl,g,r⟩:=rx
  obtain⟨u,rfl⟩:=ry
  have hl:=I.sub _ _ g
  have z1:=ZQ r
  have hz:vs.size * k.toNat≤8000:=by
    have:vs.size * k.toNat≤8 * 1000:=Nat.mul_le_mul (by omega) (by omega)
    omega
  refine yields_lst (vs:=List.foldl (fun x1 x2=>x1++x2) #[] (List.replicate (if vs.isEmpty=true then 0 else k.toNat) vs)) I ?_ fun Q E hQ =>
    wpAny_binaryOp_repeat_ref (T := "list") (U := "int") (by decide) ⟨_,hl,rfl⟩ (fun s'=>typeIs_int s' k u) noFill_list_mul F.fills_int_mul F.slot_int_rmul repeat_list F.slot_int_index.lookup
      (call_meets F.slot_int_rmul (typeIs_int s k u) F.entry_int_rmul (F.args_int_rmul_2 _ _) (int___rmul___int_list k u l vs n)
        ⟨hl,rfl,⟨_,hl,rfl⟩,call_meets F.slot_list_mul ⟨_,hl,rfl⟩ F.entry_list_mul (F.args_list_mul_2 _ _)
          (AutoListH.list___mul___list_int_3 l vs n k u (by simp[Builtin.List.listFitsIndex];omega) (by omega) (by simp[Builtin.List.listTooLong,sizeLine];omega)) ⟨hl,hQ s.toks⟩⟩)
  rw[foldl_app]
  split
  · rename_i h0
    rw[Array.isEmpty_iff_size_eq_zero] at h0
    have:a=[]:=by rw[←List.length_eq_zero_iff];omega
    subst this
    rw[show rep ([]:List AV) k=[] from List.flatten_replicate_nil]
    exact rfl
  · exact repL_rep r _
set_option tactic.hygienic true in
theorem mul_str {a:List Nat}{k:Int}{v w:Value}(b1:a.length≤8)(b2:k≤1000)(b3:0≤k)(I:Inv B G H s.heap)(rx:Rep B G (.str a) v)(ry:Rep B G (.int k) w):Yields B A (binaryOp .Mult v w) G H H (.str (rep a k)) s:=by
  obtain⟨t,rfl⟩:=rx
  obtain⟨u,rfl⟩:=ry
  have hlen:(toS a).length=a.length:=ZF a
  refine yields_str I fun Q E hQ=>P.mul_str (by rw[Bool.or_eq_false_iff];exact⟨decide_eq_false (by omega),decide_eq_false (by omega)⟩) (fun h1 q_=>?_) (fun q_ q_=>?_) ?_
  · have:(8:Int)≤(2 ^ 63-1) / k:=Int.le_ediv_of_mul_le (by omega) (by omega)
    omega
  · have:a.length * k.toNat≤8 * 1000:=Nat.mul_le_mul (by omega) (by omega)
    rw[hlen]
    exact decide_eq_false (by rw[sizeLine_eq];omega)
  · split
    · have:k.toNat=0:=by omega
      unfold rep at hQ
      rw[this] at hQ
      exact⟨by decide,hQ _ _⟩
    · split
      · rename_i h0
        have : rep a k=a:=by
          rw[Bool.or_eq_true] at h0
          unfold rep
          rcases h0 with h0 | h0
          · have:k=1:=by simpa using h0
            subst this;simp
          · have:a=[]:=by rw[←List.length_eq_zero_iff];rw[hlen] at h0;simpa using h0
            subst this;simp
        rw[this] at hQ
        exact hQ _ _
      · have q:(⟨(List.replicate k.toNat (toS a).cps).foldl (· ++ ·) #[]⟩:Str)=toS (rep a k):=by
          unfold toS rep
          congr 1
          apply Array.toList_inj.mp
          rw[foldl_app];simp
        rw[q]
        exact ⟨by
          have:(rep a k).length≤8 * 1000:=by
            unfold rep
            rw[List.length_flatten,List.map_replicate,List.sum_replicate_nat]
            have:=Nat.mul_le_mul (show k.toNat≤1000 by omega) (show a.length≤8 by omega)
            omega
          first | (rw[ZF,sizeLine_eq];omega) | (exact decide_eq_false (by rw[ZF,sizeLine_eq];omega)),hQ _ _⟩
theorem op_add {x y z:AV}{v w:Value}(e:addA x y=some z)(I:Inv B G H s.heap)(rx:Rep B G x v)(ry:Rep B G y w):Yields B A (binaryOp .Add v w) G H H z s:=by
  cases x with
  | int a =>
    obtain⟨b,hb,rfl⟩:=wA (o:=wY y) e
    have hb:=wF hb
    subst hb
    obtain⟨t,rfl⟩:=rx;obtain⟨u,rfl⟩:=ry
    exact ZA I fun Q E hQ=>P.add_int (hQ _ _)
  | str a =>
    obtain⟨b,hb,e⟩:=bind_some (o:=toStr y) e
    have hb:=toStr_some hb
    subst hb
    obtain⟨hb,rfl⟩:=wJ e
    obtain⟨t,rfl⟩:=rx;obtain⟨u,rfl⟩:=ry
    refine yields_str I fun Q E hQ=>PyProof.Rows.add_str (fun u tk=>?_) (by rw[ZF,ZF,sizeLine_eq];exact Nat.le_trans hb (by decide))
    rw[toS_append];exact hQ u tk
  | tup a =>
    obtain⟨b,hb,e⟩:=bind_some (o:=toTup y) e
    have hb:=toTup_some hb
    subst hb
    obtain⟨hb,rfl⟩:=wJ e
    exact add_tup hb I rx ry
  | lst a =>
    obtain⟨b,hb,e⟩:=bind_some (o:=toLst y) e
    have hb:=toLst_some hb
    subst hb
    obtain⟨hb,rfl⟩:=wJ e
    exact add_lst hb I rx ry
  | _=>exact nos e
theorem op_mul {x y z:AV}{v w:Value}(e:mulA x y=some z)(I:Inv B G H s.heap)(rx:Rep B G x v)(ry:Rep B G y w):Yields B A (binaryOp .Mult v w) G H H z s:=by
  obtain⟨k,hk,e⟩:=bind_some (o:=wY y) e
  have hk:=wF hk
  subst hk
  cases x with
  | int a =>
    obtain⟨hb,rfl⟩:=wJ e
    obtain⟨t,rfl⟩:=rx;obtain⟨u,rfl⟩:=ry
    exact ZA I fun Q E hQ=>P.mul_int (hQ _ _) (hm:=IntMulOk.of_right (intBits_le_64 (by omega) (by omega)))
  | tup a =>
    obtain⟨hb,rfl⟩:=wJ e
    have hb:=few_i hb
    exact mul_tup hb.1 hb.2.1 hb.2.2 I rx ry
  | lst a =>
    obtain⟨hb,rfl⟩:=wJ e
    have hb:=few_i hb
    exact mul_lst hb.1 hb.2.1 hb.2.2 I rx ry
  | str a =>
    obtain⟨hb,rfl⟩:=wJ e
    have hb:=few_i hb
    exact mul_str hb.1 hb.2.1 hb.2.2 I rx ry
  | _=>exact nos e
theorem intOp_i {f:Int→Int→Option Int}{x y z:AV}{v w:Value}(e:intOp f x y=some z)(rx:Rep B G x v)(ry:Rep B G y w):∃ a b c t u,f a b=some c∧z = .int c∧v = .int a t∧w = .int b u:=by
  obtain⟨a,ha,e⟩:=bind_some (o:=wY x) e
  obtain⟨b,hb,e⟩:=bind_some (o:=wY y) e
  obtain⟨c,hc,rfl⟩:=wA (o:=f a b) e
  have ha:=wF ha
  have hb:=wF hb
  subst ha;subst hb
  obtain⟨t,rfl⟩:=rx;obtain⟨u,rfl⟩:=ry
  exact⟨a,b,c,t,u,hc,rfl,rfl,rfl⟩
theorem op_bin {o:Op2}{x y z:AV}{v w:Value}(e:abin o x y=some z)(I:Inv B G H s.heap)(rx:Rep B G x v)(ry:Rep B G y w):Yields B A (binaryOp o.op v w) G H H z s:=by
  cases o with
  | add=>exact op_add e I rx ry
  | mul=>exact op_mul e I rx ry
  | sub =>
    obtain⟨a,b,c,t,u,hc,rfl,rfl,rfl⟩:=intOp_i e rx ry
    cases hc
    exact ZA I fun Q E hQ=>P.sub_int (hQ _ _)
  | fdiv =>
    obtain⟨a,b,c,t,u,hc,rfl,rfl,rfl⟩:=intOp_i e rx ry
    obtain⟨hb,rfl⟩:=wJ hc
    refine ZA I fun Q E hQ=>PyProof.Rows.floordiv_int (by omega) ?_ (.inl (PyProof.noPylong_small (by omega)))
    rw[fdiv_pos hb.1];exact hQ _ _
  | mod =>
    obtain⟨a,b,c,t,u,hc,rfl,rfl,rfl⟩:=intOp_i e rx ry
    obtain⟨hb,rfl⟩:=wJ hc
    refine ZA I fun Q E hQ=>PyProof.Rows.mod_int' (by omega) ?_
    rw[fmod_pos hb];exact hQ _ _
end
end
section
open PySem PySem.W PyProof.Rows PySem.Calls
open SeqAt (EqAt RcAt RcNeAt)
section
variable {B:Base}{A:Around}{G:St}{H:AH}{s:Shared}
theorem isTup {xs:List AV}{v:Value}(I:Inv B G H s.heap)(r:Rep B G (.tup xs) v):∃ a vs,v = .ref a∧s.heap.IsTuple a vs∧RepL B G xs vs.toList:=by
  refine via fun R_ k_=>?_
  obtain⟨a,vs,n,e,g,q⟩:=r
  refine k_ ?_
  exact⟨a,vs,e,⟨_,I.sub _ _ g,rfl,n,rfl⟩,q⟩
theorem isLst {xs:List AV}{v:Value}(I:Inv B G H s.heap)(r:Rep B G (.lst xs) v):∃ a vs,v = .ref a∧s.heap.IsList a vs∧RepL B G xs vs.toList:=by
  refine via fun R_ k_=>?_
  obtain⟨a,vs,n,e,g,q⟩:=r
  refine k_ ?_
  exact⟨a,vs,e,⟨_,I.sub _ _ g,rfl,n,rfl⟩,q⟩
theorem isRow {xs:List AV}{v:Value}(I:Inv B G H s.heap)(r:Rep B G (.row xs) v):∃ a vs,v = .ref a∧s.heap.IsList a vs∧RepL B G xs vs.toList:=by
  refine via fun R_ k_=>?_
  obtain⟨a,vs,n,e,⟨o,g,c,d⟩,q⟩:=r
  refine k_ ?_
  exact⟨a,vs,e,⟨o,I.sub _ _ g,c,n,d⟩,q⟩
theorem repL_at {xs:List AV}{vs:List Value}(r:RepL B G xs vs):∀ (j:Nat)(v:Value),vs[j]? = some v→∃ x,xs[j]? = some x∧Rep B G x v:=by
  induction xs generalizing vs with
  | nil=>intro j v e;rw[show vs=[] from r] at e;simp at e
  | cons x xs ih =>
    obtain⟨u,q,rfl,a,b⟩:=r
    intro j v e
    cases j with
    | zero=>simp only[List.getElem?_cons_zero,Option.some.injEq] at e;subst e;exact⟨x,rfl,a⟩
    | succ j=>rw[List.getElem?_cons_succ] at e;exact ih b j v e
theorem repL_get {xs:List AV}{vs:List Value}(r:RepL B G xs vs):∀ (j:Nat)(x:AV),xs[j]? = some x→∃ v,vs[j]? = some v∧Rep B G x v:=by
  induction xs generalizing vs with
  | nil=>intro j x e;simp at e
  | cons y xs ih =>
    obtain⟨u,q,rfl,a,b⟩:=r
    intro j x e
    cases j with
    | zero=>simp only[List.getElem?_cons_zero,Option.some.injEq] at e;subst e;exact⟨u,rfl,a⟩
    | succ j=>rw[List.getElem?_cons_succ] at e ⊢;exact ih b j x e
theorem sames_at {f:AV→AV→Bool}:∀ {xs ys:List AV},sames f xs ys=true→xs.length=ys.length∧∀ (j:Nat) x y,xs[j]? = some x→ys[j]? = some y→f x y=true
  | [],[],_=>⟨rfl,fun j x y e=>by simp at e⟩
  | [],_::_,h=>by cases h
  | _::_,[],h=>by cases h
  | x::xs,y::ys,h=>by
    have h:=(Bool.and_eq_true (f x y) (sames f xs ys)).mp h
    obtain⟨l,k⟩:=sames_at h.2
    refine⟨by simp[l],fun j a b e e'=>?_⟩
    cases j with
    | zero=>simp only[List.getElem?_cons_zero,Option.some.injEq] at e e';subst e;subst e';exact h.1
    | succ j=>rw[List.getElem?_cons_succ] at e e';exact k j a b e e'
theorem all_true (n:Nat):((List.range n).all fun q_=>true)=true:=List.all_eq_true.mpr fun q_ q_=>rfl
theorem eqAt_same:∀ (n:Nat){A:Around}{x y:AV}{v w:Value}(I:Inv B G H s.heap),same n x y=true→A.units+n<cLine→Rep B G x v→Rep B G y w→EqAt A s v w true:=by
  intro n
  induction n with
  | zero=>intro A x y v w I h;cases h
  | succ n ih =>
    intro A x y v w I h hu rx ry
    have items:∀ {a b:List AV} {vs ws:Array Value},sames (same n) a b=true→RepL B G a vs.toList→RepL B G b ws.toList →
        vs.size=ws.size∧∀ j (h1:j<vs.size) (h2:j<ws.size),EqAt A.in1 s vs[j] ws[j] true:=by
      intro a b vs ws hs ra rb
      obtain⟨hl,hk⟩:=sames_at hs
      refine⟨by rw[ZQ ra,ZQ rb,hl],fun j h1 h2=>?_⟩
      refine via fun R_ k_=>?_
      obtain⟨x,ex,rx⟩:=repL_at ra j vs[j] (by simp[h1])
      obtain⟨y,ey,ry⟩:=repL_at rb j ws[j] (by simp[h2])
      refine k_ ?_
      exact ih I (hk j x y ex ey) (by show A.units+1+n<cLine;omega) rx ry
    cases x with
    | none =>
      have e:=isNone_eq (v:=y) h
      subst e
      rw[show v = .none from rx,show w = .none from ry];exact EqAt.same _
    | bool a =>
      have e:=truthA_some (of_decide_eq_true (p:=wH y=some a) h)
      subst e
      rw[show v = .bool a from rx,show w = .bool a from ry];exact EqAt.same _
    | int a =>
      have e:=wF (of_decide_eq_true (p:=wY y=some a) h)
      subst e
      obtain⟨t,rfl⟩:=rx;obtain⟨u,rfl⟩:=ry
      have:=EqAt.int_int (A:=A) (s:=s) (a:=a) t (b:=a) u
      rwa [beq_self_eq_true] at this
    | str a =>
      have e:=toStr_some (of_decide_eq_true (p:=toStr y=some a) h)
      subst e
      obtain⟨t,rfl⟩:=rx;obtain⟨u,rfl⟩:=ry
      have:=EqAt.str_str (A:=A) (s:=s) (toS a) t (toS a) u
      rwa [beq_self_eq_true] at this
    | tup a =>
      obtain⟨b,hb,h⟩:=(Option.any_eq_true (sames (same n) a) (toTup y)).mp h
      have hb:=toTup_some hb
      subst hb
      obtain⟨p,vs,rfl,ha,ra⟩:=isTup I rx
      obtain⟨q,ws,rfl,hb,rb⟩:=isTup I ry
      obtain⟨hl,hk⟩:=items h ra rb
      by_cases hab:p=q
      · subst hab;exact EqAt.same _
      · refine EqAt.of_refs hab ?_
        have:=RcAt.tuples (e:=fun q_=>true) ha hb (by omega) hk
        rwa [hl,Nat.min_self,beq_self_eq_true,Bool.and_true,all_true] at this
    | lst a =>
      obtain⟨b,hb,h⟩:=(Option.any_eq_true (sames (same n) a) (toLst y)).mp h
      have hb:=toLst_some hb
      subst hb
      obtain⟨p,vs,rfl,ha,ra⟩:=isLst I rx
      obtain⟨q,ws,rfl,hb,rb⟩:=isLst I ry
      obtain⟨hl,hk⟩:=items h ra rb
      by_cases hab:p=q
      · subst hab;exact EqAt.same _
      · refine EqAt.of_refs hab ?_
        have:=RcAt.lists (e:=fun q_=>true) ha hb hl (by omega) hk
        rwa [all_true] at this
    | _=>exact bad h
theorem rc_tup {a b:List AV}{v w:Value}(I:Inv B G H s.heap)(h:same 5 (.tup a) (.tup b)=true)(hu:A.units+6<cLine)(rx:Rep B G (.tup a) v)(ry:Rep B G (.tup b) w):RcAt A s v w true∧RcNeAt A s v w false:=by
  obtain⟨x,vs,rfl,hx,ra⟩:=isTup I rx
  obtain⟨y,ws,rfl,hy,rb⟩:=isTup I ry
  have hs:sames (same 4) a b=true:=h
  obtain⟨hl,hk⟩:=sames_at hs
  have hz:vs.size=ws.size:=by rw[ZQ ra,ZQ rb,hl]
  have items:∀ j (h1:j<vs.size) (h2:j<ws.size),EqAt A.in1 s vs[j] ws[j] true:=fun j h1 h2=>by
    refine via fun R_ k_=>?_
    obtain⟨x,ex,rx⟩:=repL_at ra j vs[j] (by simp[h1])
    obtain⟨y,ey,ry⟩:=repL_at rb j ws[j] (by simp[h2])
    refine k_ ?_
    exact eqAt_same 4 I (hk j x y ex ey) (by show A.units+1+4<cLine;omega) rx ry
  have p:=RcAt.tuples (e:=fun q_=>true) hx hy (by omega) items
  have q:=RcNeAt.tuples (e:=fun q_=>true) hx hy (by omega) items
  simp only[hz,Nat.min_self,BEq.rfl,Bool.and_true,all_true] at p q
  exact⟨p,q⟩
theorem rc_nil {a:List AV}{v w:Value}(I:Inv B G H s.heap)(hu:A.units<cLine)(rx:Rep B G (.lst a) v)(ry:Rep B G (.lst []) w):RcAt A s v w a.isEmpty∧RcNeAt A s v w (!a.isEmpty):=by
  obtain⟨x,vs,rfl,hx,ra⟩:=isLst I rx
  obtain⟨y,ws,rfl,hy,rb⟩:=isLst I ry
  have h1:=ZQ ra
  have h2:ws.size=0:=ZQ rb
  cases a with
  | nil =>
    have hz:vs.size=ws.size:=h1.trans h2.symm
    have he:∀ j (h1:j<vs.size) (h2:j<ws.size),EqAt A.in1 s vs[j] ws[j] true:=fun j q_ k=>absurd k (by rw[h2];exact Nat.not_lt_zero j)
    have p:=RcAt.lists (e:=fun q_=>true) hx hy hz hu he
    have q:=RcNeAt.lists (e:=fun q_=>true) hx hy hz hu he
    rw[all_true] at p q
    exact⟨p,q⟩
  | cons b a =>
    have hn:(vs.size != ws.size)=true:=by rw[h1,h2];rfl
    exact⟨RcAt.lists_lengths hx hy hn hu,RcNeAt.lists_lengths hx hy hn hu⟩
theorem intsAre:∀ {xs:List AV}{l:List Int}{vs:List Value},ints? xs=some l→RepL B G xs vs→IntsAre vs l
  | [],l,vs,e,r=>by cases e;rw[show vs=[] from r];exact .nil
  | x :: xs,l,vs,e,r=>by
    obtain⟨v,q,rfl,a,b⟩:=r
    cases x with
    | int i =>
      obtain⟨k,e1,rfl⟩:=wA (o:=ints? xs) e
      obtain⟨t,rfl⟩:=a
      exact .cons i t (intsAre e1 b)
    | _=>cases e
theorem strsAre:∀ {xs:List AV}{l:List (List Nat)}{vs:List Value},strs? xs=some l→RepL B G xs vs→StrsAre vs (l.map toS)
  | [],l,vs,e,r=>by cases e;rw[show vs=[] from r];exact .nil
  | x :: xs,l,vs,e,r=>by
    obtain⟨v,q,rfl,a,b⟩:=r
    cases x with
    | str i =>
      obtain⟨k,e1,rfl⟩:=wA (o:=strs? xs) e
      obtain⟨t,rfl⟩:=a
      exact .cons (toS i) t (strsAre e1 b)
    | _=>cases e
theorem toS_inj {a b:List Nat}:toS a=toS b↔a=b:=by
  constructor
  · intro h
    have:(toS a).cps.toList=(toS b).cps.toList:=by rw[h]
    simpa[toS] using this
  · intro h;rw[h]
theorem toS_beq (a b:List Nat):(toS a==toS b)=decide (a=b):=by
  rw[Bool.eq_iff_iff]
  simp[toS_inj]
theorem repD_map:∀ {kvs:List (Int×AV)}{es:List DictEntry},RepD B G kvs es→(∀ e∈es,∃ k t,e.key = .int k t∧e.hash=hashInt k) ∧
    ∀ k:Int,match kvs.find? (fun p=>decide (k=p.1)),(es.find? fun e=>Value.isInt k e.key) with
      | some p,some e=>Rep B G p.2 e.val
      | none,none=>True
      | _,_=>False
  | [],es,r=>by rw[show es=[] from r];exact⟨fun q_ h=>(List.not_mem_nil h).elim,fun k=>trivial⟩
  | p :: kvs,es,r=>by
    obtain⟨e,t,u,rfl,ek,eh,rv,rr⟩:=r
    obtain⟨h1,h2⟩:=repD_map rr
    refine⟨fun x hx=>?_,fun k=>?_⟩
    · rcases List.mem_cons.mp hx with rfl | hx
      · exact⟨_,t,ek,eh⟩
      · exact h1 x hx
    · rw [List.find?_cons,List.find?_cons,ek]
      by_cases hk:k=p.1
      · have a:decide (k=p.1)=true:=decide_eq_true hk
        have b:Value.isInt k (.int p.1 t)=true:=beq_iff_eq.mpr hk.symm
        rw[a,b]
        exact rv
      · have a:decide (k=p.1)=false:=decide_eq_false hk
        have b:Value.isInt k (.int p.1 t)=false:=beq_eq_false_iff_ne.mpr fun q=>hk q.symm
        rw[a,b]
        exact h2 k
end
end
section
open PySem PySem.W PyProof.Rows PySem.Calls
open SeqAt (EqAt RcAt RcNeAt)
theorem opC_eq {o:OpC}{p:CmpOp}(h:opC o p=true):p=o.op:=of_decide_eq_true h
section
variable {B:Base}{A:Around}{G:St}{H:AH}{s:Shared}
theorem wZ {t:Sem Value}{b:Bool}(I:Inv B G H s.heap)
    (h:∀ (Q:Value→Shared→Prop) (E:Value→Shared→Prop),(∀ tk,Q (.bool b) { s with toks:=tk })→wpAny (model B.prog B.w) A t Q E s):Yields B A t G H H (.bool b) s:=yields_val I rfl h
theorem yields_rc {v w:Value}{b:Bool}(I:Inv B G H s.heap)(h:RcAt A s v w b):Yields B A (compareOp .Eq v w) G H H (.bool b) s :=
  wZ I fun Q E hQ=>show wpAny _ A (richCompare .Eq v w) Q E s from h B.prog B.w E Q (hQ s.toks)
theorem yields_rn {v w:Value}{b:Bool}(I:Inv B G H s.heap)(h:RcNeAt A s v w b):Yields B A (compareOp .NotEq v w) G H H (.bool b) s :=
  wZ I fun Q E hQ=>show wpAny _ A (richCompare .NotEq v w) Q E s from h B.prog B.w E Q (hQ s.toks)
theorem int_beq (a b:Int):(a==b)=decide (a=b):=by rw[Bool.eq_iff_iff];simp
theorem int_bne (a b:Int):(a != b) = !decide (a=b):=by rw[←int_beq];rfl
theorem op_eq {x y:AV}{v w:Value}{b:Bool}(e:aeq x y=some b)(hu:A.units+6<cLine)(I:Inv B G H s.heap)(rx:Rep B G x v)(ry:Rep B G y w) :
    Yields B A (compareOp .Eq v w) G H H (.bool b) s∧Yields B A (compareOp .NotEq v w) G H H (.bool (!b)) s:=by
  cases x with
  | bool a =>
    obtain⟨c,hc,rfl⟩:=wA (o:=wH y) e
    have hc:=truthA_some hc
    subst hc
    rw[show v=_ from rx,show w=_ from ry]
    exact⟨wZ I fun Q E hQ=>PyProof.Rows.eq_bool (hQ s.toks),wZ I fun Q E hQ=>PyProof.Rows.ne_bool (hQ s.toks)⟩
  | int a =>
    obtain⟨c,hc,rfl⟩:=wA (o:=wY y) e
    have hc:=wF hc
    subst hc
    obtain⟨t,rfl⟩:=rx;obtain⟨u,rfl⟩:=ry
    exact⟨wZ I fun Q E hQ=>P.eq_int (by rw[int_beq];exact hQ s.toks),wZ I fun Q E hQ=>P.ne_int (by rw[int_bne];exact hQ s.toks)⟩
  | str a =>
    obtain⟨c,hc,rfl⟩:=wA (o:=toStr y) e
    have hc:=toStr_some hc
    subst hc
    obtain⟨t,rfl⟩:=rx;obtain⟨u,rfl⟩:=ry
    exact⟨wZ I fun Q E hQ=>PyProof.Rows.eq_str (by rw[toS_beq];exact hQ s.toks),wZ I fun Q E hQ=>PyProof.Rows.ne_str (by rw[bne,toS_beq];exact hQ s.toks)⟩
  | none =>
    obtain⟨h,rfl⟩:=wJ (b:=y.isNone=true) e
    have h:=isNone_eq h
    subst h
    rw[show v=_ from rx,show w=_ from ry]
    exact⟨yields_rc I SeqAt.RcAt.none_none,yields_rn I SeqAt.RcNeAt.none_none⟩
  | tup a =>
    cases y with
    | str c =>
      cases (show some false=some b from e)
      obtain⟨u,rfl⟩:=ry
      obtain⟨a,vs,rfl,ha,ra⟩:=isTup I rx
      exact⟨yields_rc I (SeqAt.RcAt.tuple_str _ u ha (by omega)),yields_rn I (SeqAt.RcNeAt.tuple_str _ u ha (by omega))⟩
    | tup c =>
      obtain⟨h,rfl⟩:=wJ (b:=same 5 (.tup a) (.tup c)=true) e
      have:=rc_tup (A:=A) I h (by omega) rx ry
      exact⟨yields_rc I this.1,yields_rn I this.2⟩
    | _=>exact nos e
  | lst a =>
    obtain⟨l,hy,e⟩:=Option.bind_eq_some_iff.mp (show(toLst y).bind (fun l=>aif (l.isEmpty=true) a.isEmpty)=some b from e)
    have hy:=toLst_some hy
    subst hy
    obtain⟨hl,rfl⟩:=wJ e
    have hl:=List.isEmpty_iff.mp hl
    subst hl
    have q:=rc_nil (A:=A) I (by omega) rx ry
    exact⟨yields_rc I q.1,yields_rn I q.2⟩
  | _=>exact nos e
theorem any_beq (l:List Int)(i:Int):(l.any fun j=>j==i)=l.any fun j=>decide (i=j):=by
  congr 1;funext j;rw[int_beq];exact decide_eq_decide.mpr eq_comm
theorem any_beqS (l:List (List Nat))(s:List Nat):((l.map toS).any fun j=>j==toS s)=l.any fun t=>decide (s=t):=by
  rw[List.any_map];congr 1;funext t;show(toS t==toS s)=_;rw[toS_beq];exact decide_eq_decide.mpr eq_comm
theorem intMap {kvs:List (Int×AV)}{v:Value}(I:Inv B G H s.heap)(r:Rep B G (.dct kvs) v):∃ a f,v = .ref a∧s.heap.IntMap a f ∧
    ∀ k,match kvs.find? (fun p=>decide (k=p.1)),f k with
      | some p,some w=>Rep B G p.2 w
      | none,none=>True
      | _,_=>False:=by
  refine via fun R_ k_=>?_
  obtain⟨a,es,n,e,g,_,q⟩:=r
  obtain⟨h1,h2⟩:=repD_map q
  refine k_ ?_
  refine⟨a,fun k=>findBy Value.isInt es k,e,⟨_,es,n,I.sub _ _ g,rfl,rfl,fun x hx=>h1 x (by simpa using hx),fun q_=>rfl⟩,fun k=>?_⟩
  have:=h2 k
  show match kvs.find? (fun p=>decide (k=p.1)),Option.map (fun x=>x.val) (Array.find? (fun e=>Value.isInt k e.key) es) with
      | some p,some w=>Rep B G p.2 w
      | none,none=>True
      | _,_=>False
  rw[←Array.find?_toList]
  revert this
  cases kvs.find? (fun p=>decide (k=p.1)) <;> cases es.toList.find? (fun e=>Value.isInt k e.key) <;> exact fun x=>x
theorem in_int {i:Int}{y:AV}{v w:Value}{b:Bool}(e:inInt i y=some b)(I:Inv B G H s.heap)(rx:Rep B G (.int i) v)(ry:Rep B G y w):Yields B A (compareOp .In v w) G H H (.bool b) s:=by
  obtain⟨t,rfl⟩:=rx
  cases y with
  | lst xs =>
    obtain⟨l,e',rfl⟩:=wA (o:=ints? xs) e
    obtain⟨a,vs,rfl,ha,ra⟩:=isLst I ry
    exact wZ I fun Q E hQ=>PyProof.Rows.in_list_ints (vs:=vs.toList) ha (intsAre e' ra) (by rw[any_beq];exact hQ s.toks)
  | tup xs =>
    obtain⟨l,e',rfl⟩:=wA (o:=ints? xs) e
    obtain⟨a,vs,rfl,ha,ra⟩:=isTup I ry
    exact wZ I fun Q E hQ=>PyProof.Rows.in_tuple_ints ha (intsAre e' ra) (by rw[any_beq];exact hQ s.toks)
  | dct kvs =>
    cases (show some (kvs.any fun p=>decide (i=p.1))=some b from e)
    obtain⟨a,f,rfl,hm,hf⟩:=intMap I ry
    refine wZ I fun Q E hQ=>wpAny_in_intMap hm ?_
    have q:(f i).isSome=kvs.any fun p=>decide (i=p.1):=by
      have:=hf i
      have q:(kvs.find? fun p=>decide (i=p.1)).isSome=kvs.any fun p=>decide (i=p.1):=by rw[Bool.eq_iff_iff,List.find?_isSome,List.any_eq_true]
      rw[←q]
      revert this
      cases kvs.find? (fun p=>decide (i=p.1)) <;> cases f i <;> simp
    rw[q];exact hQ _
  | _=>exact nos e
theorem in_str_ {t:List Nat}{y:AV}{v w:Value}{b:Bool}(e:inStr t y=some b)(I:Inv B G H s.heap)(rx:Rep B G (.str t) v)(ry:Rep B G y w):Yields B A (compareOp .In v w) G H H (.bool b) s:=by
  obtain⟨u,rfl⟩:=rx
  cases y with
  | tup xs =>
    obtain⟨l,e',rfl⟩:=wA (o:=strs? xs) e
    obtain⟨a,vs,rfl,ha,ra⟩:=isTup I ry
    exact wZ I fun Q E hQ=>PyProof.Rows.in_tuple_strs ha (strsAre e' ra) (by rw[any_beqS];exact hQ s.toks)
  | str t' =>
    match t,e with
    | [c],e =>
    cases (show some (t'.any fun d=>decide (c=d))=some b from e)
    obtain⟨u',rfl⟩:=ry
    refine wZ I fun Q E hQ=>PyProof.Rows.in_str ?_
    have q:(!(Builtin.Str.occurrences (toS t') (toS [c]) 0 (toS t').length 1).isEmpty)=t'.any fun d=>decide (c=d):=by
      show(!(Builtin.Str.occurrences (toS t') ⟨#[c]⟩ 0 (toS t').length 1).isEmpty)=_
      rw[PySem.StrLaws.found_one,Bool.eq_iff_iff,decide_eq_true_eq,List.any_eq_true]
      show c∈t'.toArray.toList↔_
      constructor
      · intro h;exact⟨c,by simpa using h,decide_eq_true rfl⟩
      · rintro⟨d,h,k⟩;have:=of_decide_eq_true k;subst this;simpa using h
    rw[q];exact hQ _
    | [],e=>exact nos e
    | _::_::_,e=>exact nos e
  | _=>exact nos e
theorem op_in {x y:AV}{v w:Value}{b:Bool}(e:ain x y=some b)(I:Inv B G H s.heap)(rx:Rep B G x v)(ry:Rep B G y w):Yields B A (compareOp .In v w) G H H (.bool b) s:=by
  cases x with
  | int i=>exact in_int e I rx ry
  | str t=>exact in_str_ e I rx ry
  | _=>exact nos e
theorem op_cmp {o:OpC}{x y:AV}{v w:Value}{b:Bool}(e:JW o x y=some b)(hu:A.units+6<cLine)(I:Inv B G H s.heap)(rx:Rep B G x v)(ry:Rep B G y w) :
    Yields B A (compareOp o.op v w) G H H (.bool b) s:=by
  have nn:∀ {x:AV} {v:Value},Rep B G x v→(v == .none)=x.isNone:=by
    intro x v r
    cases x with
    | none=>rw[show v=_ from r];rfl
    | bool b=>rw[show v=_ from r];rfl
    | int i=>obtain⟨t,rfl⟩:=r;rfl
    | str i=>obtain⟨t,rfl⟩:=r;rfl
    | tup i=>obtain⟨a,_,_,rfl,_⟩:=r;rfl
    | lst i=>obtain⟨a,_,_,rfl,_⟩:=r;rfl
    | row i=>obtain⟨a,_,_,rfl,_⟩:=r;rfl
    | clo i c=>obtain⟨a,_,rfl,_⟩:=r;rfl
    | dct i=>obtain⟨a,_,_,rfl,_⟩:=r;rfl
    | obj i=>obtain⟨a,_,rfl⟩:=r;rfl
    | fn i=>rw[show v=_ from r];rfl
    | cls i=>rw[show v=_ from r];rfl
    | bi i=>rw[show v=_ from r];cases i <;> rfl
  have nums:∀ {f:Int→Int→Bool},cmpI f x y=some b→∃ a c t u,f a c=b∧v = .int a t∧w = .int c u:=fun {f} e=>by
    refine via fun R_ k_=>?_
    obtain⟨a,ha,e⟩:=bind_some (o:=wY x) e
    obtain⟨c,hc,e2⟩:=wA (o:=wY y) e
    refine k_ ?_
    have ha:=wF ha
    have hc:=wF hc
    subst ha;subst hc
    obtain⟨t,rfl⟩:=rx;obtain⟨u,rfl⟩:=ry
    exact⟨a,c,t,u,e2,rfl,rfl⟩
  cases o with
  | eq=>exact(op_eq e hu I rx ry).1
  | ne =>
    obtain⟨l,e',rfl⟩:=wA (o:=aeq x y) e
    exact(op_eq e' hu I rx ry).2
  | lt =>
    obtain⟨a,c,t,u,rfl,rfl,rfl⟩:=nums e
    exact wZ I fun Q E hQ=>P.lt_int (hQ s.toks)
  | le =>
    obtain⟨a,c,t,u,rfl,rfl,rfl⟩:=nums e
    exact wZ I fun Q E hQ=>P.le_int (hQ s.toks)
  | gt =>
    obtain⟨a,c,t,u,rfl,rfl,rfl⟩:=nums e
    exact wZ I fun Q E hQ=>P.gt_int (hQ s.toks)
  | ge =>
    obtain⟨a,c,t,u,rfl,rfl,rfl⟩:=nums e
    exact wZ I fun Q E hQ=>P.ge_int (hQ s.toks)
  | is =>
    obtain⟨h,rfl⟩:=wJ (b:=y.isNone=true) e
    have h:=isNone_eq h
    subst h
    rw[show w=_ from ry]
    exact wZ I fun Q E hQ=>PyProof.Rows.is_none_gen (by rw[nn rx];exact hQ s.toks)
  | isNot =>
    obtain⟨h,rfl⟩:=wJ (b:=y.isNone=true) e
    have h:=isNone_eq h
    subst h
    rw[show w=_ from ry]
    exact wZ I fun Q E hQ=>PyProof.Rows.isnot_none_gen (by rw[nn rx];exact hQ s.toks)
  | isIn=>exact op_in e I rx ry
end
end
section
open PySem PySem.W PyProof.Rows PySem.Calls
section
variable {B:Base}{A:Around}{T:Tabs}{sc:Scope}{ns:List (List Nat)}{env:Env}{F:AF}
noncomputable def tst (m:AM AV):AM Bool:=zZ m fun v=>jW (wH v)
noncomputable abbrev EvT (B:Base)(A:Around)(T:Tabs)(sc:Scope)(ns:List (List Nat))(env:Env)(F:AF)(e:Expr)(m:AM AV):Prop :=
  Ev B A (FrOK B T sc ns env F) (isTrue e env (eval e env)) (fun _ (x:Bool) (b:Bool)=>b=x) (tst m)
inductive ToR {α τ:Type}(m:AM AV)(c:τ→AV)(f:τ→AM α)(H:AH)(r:α×AH):Prop
  | mk (b:τ) (H1:AH) (e1:m H=some (c b,H1)) (e2:f b H1=some r)
inductive OptR {α β:Type}(o:Option β)(f:β→AM α)(H:AH)(r:α×AH):Prop
  | mk (x:β) (e:o=some x) (e2:f x H=some r)
theorem JZ {α:Type}{m:AM AV}{f:Bool→AM α}{H:AH}{r:α×AH}(e:zZ m (fun v=>zZ (jW (wH v)) f) H=some r):ToR m AV.bool f H r:=by
  obtain⟨v,H1,e1,e2⟩:=zJ e
  obtain⟨b,H2,e3,e4⟩:=zJ e2
  obtain⟨e5,rfl⟩:=ZW e3
  exact⟨b,H2,(truthA_some e5)▸e1,e4⟩
theorem abind_int {α:Type}{m:AM AV}{f:Int→AM α}{H:AH}{r:α×AH}(e:zZ m (fun v=>zZ (jW (wY v)) f) H=some r):ToR m AV.int f H r:=by
  obtain⟨v,H1,e1,e2⟩:=zJ e
  obtain⟨b,H2,e3,e4⟩:=zJ e2
  obtain⟨e5,rfl⟩:=ZW e3
  exact⟨b,H2,(wF e5)▸e1,e4⟩
theorem abind_str {α:Type}{m:AM AV}{f:List Nat→AM α}{H:AH}{r:α×AH}(e:zZ m (fun v=>zZ (jW (toStr v)) f) H=some r):ToR m AV.str f H r:=by
  obtain⟨v,H1,e1,e2⟩:=zJ e
  obtain⟨b,H2,e3,e4⟩:=zJ e2
  obtain⟨e5,rfl⟩:=ZW e3
  exact⟨b,H2,(toStr_some e5)▸e1,e4⟩
theorem abind_lst {α:Type}{m:AM AV}{f:List AV→AM α}{H:AH}{r:α×AH}(e:zZ m (fun v=>zZ (jW (toLst v)) f) H=some r):ToR m AV.lst f H r:=by
  obtain⟨v,H1,e1,e2⟩:=zJ e
  obtain⟨b,H2,e3,e4⟩:=zJ e2
  obtain⟨e5,rfl⟩:=ZW e3
  exact⟨b,H2,(toLst_some e5)▸e1,e4⟩
theorem ZZ {α:Type}{b:Prop} [Decidable b]{f:Unit→AM α}{H:AH}{r:α×AH}(e:zZ (jW (aif b ())) f H=some r):b∧f () H=some r:=by
  obtain⟨v,H1,e1,e2⟩:=zJ e
  obtain⟨e3,rfl⟩:=ZW e1
  exact⟨(wJ e3).1,e2⟩
theorem jB {α β:Type}{o:Option β}{f:β→AM α}{H:AH}{r:α×AH}(e:zZ (jW o) f H=some r):OptR o f H r:=by
  obtain⟨v,H1,e1,e2⟩:=zJ e
  obtain⟨e3,rfl⟩:=ZW e1
  exact⟨v,e3,e2⟩
theorem abind_read {α:Type}{g:AH→Option AV}{f:AV→AM α}{H:AH}{r:α×AH}(e:zZ (aread g) f H=some r):OptR (g H) f H r:=by
  refine via fun R_ k_=>?_
  obtain⟨v,H1,e1,e2⟩:=zJ e
  obtain⟨x,e3,e4⟩:=wA (o:=g H) e1
  refine k_ ?_
  cases e4
  exact⟨v,e3,e2⟩
theorem aread_some {g:AH→Option AV}{H H':AH}{v:AV}(e:aread g H=some (v,H')):g H=some v∧H'=H:=by
  obtain⟨x,e3,e4⟩:=wA (o:=g H) e
  cases e4
  exact⟨e3,rfl⟩
theorem tst_some {m:AM AV}{H H':AH}{b:Bool}(e:tst m H=some (b,H')):m H=some (.bool b,H'):=by
  obtain⟨v,H1,e1,e2⟩:=zJ e
  obtain⟨e3,rfl⟩:=ZW e2
  rw[truthA_some e3] at e1;exact e1
theorem tst_of {m:AM AV}{H H':AH}{b:Bool}(e:m H=some (.bool b,H')):tst m H=some (b,H'):=by
  show zZ m _ H=_
  unfold zZ
  rw[e];rfl
theorem Yields.use {G0:St}{h0:Heap}{G:St}{H H':AH}{s:Shared}{z:AV}{t:Sem Value}{Q E:Value→Shared→Prop}(y:Yields B A t G H H' z s)(P0:FrOK B T sc ns env F G s.heap)
    (st:Step B Pure G0 h0 G s.heap) (hQ:∀ v G' h' tk',Step B Pure G0 h0 G' h'→Inv B G' H' h'→FrOK B T sc ns env F G' h'→Rep B G' z v→Q v { s with heap:=h',toks:=tk' }) :
    wpAny (model B.prog B.w) A t Q E s :=
  y Q E fun v G' h' tk' s' I' r=>hQ v G' h' tk' (st.trans s') I' (P0.step s') r
theorem evT_value {e:Expr}{m:AM AV}(h:EvE B A T sc ns env F e m)(he:isTrue e env (eval e env)=(do let v ←eval e env;standAt e.pos;holding [v] (truthy v))):EvT B A T sc ns env F e m :=
  fun s G H x H' hP I eq Q E hQ=>by
    refine wpAny_isTrue_value (h s G H _ H' hP I (tst_some eq) _ _ fun v G1 h1 t1 s1 I1 P1 r1=>?_) he
    rw[show v = .bool x from r1]
    exact wpAny_truthy_bool (hQ x G1 h1 t1 s1 I1 P1 rfl)
theorem ev_bin {o:Op2}{l r:Expr}{p:Pos}{ma mb:AM AV}(ha:EvE B A T sc ns env F l ma)(hb:EvE B A T sc ns env F r mb) :
    EvE B A T sc ns env F (.BinOp l (o.op) r p) (zZ ma fun x=>zZ mb fun y=>jW (abin o x y)):=fun s G H z H' hP I eq Q E hQ=>by
  obtain⟨x,H1,e1,eq⟩:=zJ eq
  obtain⟨y,H2,e2,eq⟩:=zJ eq
  obtain⟨e3,rfl⟩:=ZW eq
  refine wpAny_BinOp (ha s G H x H1 hP I e1 _ _ fun v G1 h1 t1 s1 I1 P1 r1=>?_)
  refine hb _ G1 H1 y _ P1 I1 e2 _ _ fun u G2 h2 t2 s2 I2 P2 r2=>?_
  exact(op_bin e3 I2 (s2.rep r1) r2).use P2 (s1.trans s2) fun v G' h' tk'=>hQ v G' h' tk'
theorem ev_cmp {o:OpC}{l r:Expr}{p:Pos}{ma mb:AM AV}(hu:A.units+6<cLine)(ha:EvE B A T sc ns env F l ma)(hb:EvE B A T sc ns env F r mb)(hm:behindInMarks (o.op) r=false) :
    EvE B A T sc ns env F (.Compare l [o.op] [r] p) (zZ ma fun x=>zZ mb fun y=>jW ((JW o x y).map .bool)) ∧
    EvT B A T sc ns env F (.Compare l [o.op] [r] p) (zZ ma fun x=>zZ mb fun y=>jW ((JW o x y).map .bool)):=by
  refine⟨fun s G H z H' hP I eq Q E hQ=>?_,fun s G H z H' hP I eq Q E hQ=>?_⟩
  · obtain⟨x,H1,e1,eq⟩:=zJ eq
    obtain⟨y,H2,e2,eq⟩:=zJ eq
    obtain⟨e3,rfl⟩:=ZW eq
    obtain⟨b,e3',rfl⟩:=Option.map_eq_some_iff.mp e3
    refine wpAny_Compare1 (ha s G H x H1 hP I e1 _ _ fun v G1 h1 t1 s1 I1 P1 r1=>?_) hm
    refine hb _ G1 H1 y _ P1 I1 e2 _ _ fun u G2 h2 t2 s2 I2 P2 r2=>?_
    exact(op_cmp e3' hu I2 (s2.rep r1) r2).use P2 (s1.trans s2) fun v G' h' tk'=>hQ v G' h' tk'
  · have eq:=tst_some eq
    obtain⟨x,H1,e1,eq⟩:=zJ eq
    obtain⟨y,H2,e2,eq⟩:=zJ eq
    obtain⟨e3,rfl⟩:=ZW eq
    obtain⟨b,e3',e4⟩:=Option.map_eq_some_iff.mp e3
    cases e4
    refine wpAny_isTrue_Compare1 (ha s G H x H1 hP I e1 _ _ fun v G1 h1 t1 s1 I1 P1 r1=>?_) hm
    refine hb _ G1 H1 y _ P1 I1 e2 _ _ fun u G2 h2 t2 s2 I2 P2 r2=>?_
    refine(op_cmp e3' hu I2 (s2.rep r1) r2).use P2 (s1.trans s2) fun v G' h' tk' s3 I3 P3 r3=>?_
    rw[show v=_ from r3]
    exact wpAny_truthy_bool (hQ _ G' h' tk' s3 I3 P3 rfl)
theorem ev_cmp2 {o o':OpC}{l r r':Expr}{p:Pos}{ma mb mc:AM AV}(hu:A.units+6<cLine)(ha:EvE B A T sc ns env F l ma)(hb:EvE B A T sc ns env F r mb)(hc:EvE B A T sc ns env F r' mc)
    (hm:behindInMarks (o'.op) r'=false) {m:AM AV}
    (hm':m=zZ ma fun x=>zZ mb fun y=>zZ (jW (JW o x y)) fun t=>if t then zZ mc fun z=>jW ((JW o' y z).map .bool) else zH (.bool false)) :
    EvE B A T sc ns env F (.Compare l [o.op,o'.op] [r,r'] p) m∧EvT B A T sc ns env F (.Compare l [o.op,o'.op] [r,r'] p) m:=by
  subst hm'
  refine⟨fun s G H z H' hP I eq Q E hQ=>?_,fun s G H z H' hP I eq Q E hQ=>?_⟩
  · obtain ⟨x,H1,e1,eq⟩:=zJ eq
    obtain⟨y,H2,e2,eq⟩:=zJ eq
    obtain⟨t,H3,e3,eq⟩:=zJ eq
    obtain⟨e3',rfl⟩:=ZW e3
    refine Compare_chain (rs:=[]) (ops:=[]) (ha s G H x H1 hP I e1 _ _ fun v G1 h1 t1 s1 I1 P1 r1=>chain_link ?_) hm
    refine hb _ G1 H1 y _ P1 I1 e2 _ _ fun u G2 h2 t2 s2 I2 P2 r2=>?_
    refine op_cmp e3' hu I2 (s2.rep r1) r2 _ _ fun v3 G3 h3 t3 s3 I3 r3=>?_
    rw[show v3=_ from r3]
    refine wpAny_truthy_bool ?_
    have P3:=P2.step s3
    cases t with
    | false =>
      obtain⟨rfl,rfl⟩:=zF eq
      exact hQ _ G3 h3 t3 (s1.trans (s2.trans s3)) I3 P3 rfl
    | true =>
      rw[if_pos rfl] at eq
      obtain⟨w,H4,e4,eq⟩:=zJ eq
      obtain⟨e5,rfl⟩:=ZW eq
      obtain⟨b,e5',rfl⟩:=Option.map_eq_some_iff.mp e5
      refine chain_last (hc _ G3 _ w _ P3 I3 e4 _ _ fun v4 G4 h4 t4 s4 I4 P4 r4=>?_)
      exact(op_cmp e5' hu I4 (s4.rep (s3.rep r2)) r4).use P4 (s1.trans (s2.trans (s3.trans s4))) fun v G' h' tk'=>hQ v G' h' tk'
  · have eq:=tst_some eq
    obtain⟨x,H1,e1,eq⟩:=zJ eq
    obtain⟨y,H2,e2,eq⟩:=zJ eq
    obtain⟨t,H3,e3,eq⟩:=zJ eq
    obtain⟨e3',rfl⟩:=ZW e3
    refine isTrue_chain (rs:=[]) (ops:=[]) (ha s G H x H1 hP I e1 _ _ fun v G1 h1 t1 s1 I1 P1 r1=>test_link ?_) hm
    refine hb _ G1 H1 y _ P1 I1 e2 _ _ fun u G2 h2 t2 s2 I2 P2 r2=>?_
    refine op_cmp e3' hu I2 (s2.rep r1) r2 _ _ fun v3 G3 h3 t3 s3 I3 r3=>?_
    rw[show v3=_ from r3]
    refine wpAny_truthy_bool ?_
    have P3:=P2.step s3
    cases t with
    | false =>
      obtain⟨e6,rfl⟩:=zF eq
      cases e6
      exact hQ _ G3 h3 t3 (s1.trans (s2.trans s3)) I3 P3 rfl
    | true =>
      rw[if_pos rfl] at eq
      obtain⟨w,H4,e4,eq⟩:=zJ eq
      obtain⟨e5,rfl⟩:=ZW eq
      obtain⟨b,e5',e6⟩:=Option.map_eq_some_iff.mp e5
      cases e6
      refine test_last (hc _ G3 _ w _ P3 I3 e4 _ _ fun v4 G4 h4 t4 s4 I4 P4 r4=>?_)
      refine(op_cmp e5' hu I4 (s4.rep (s3.rep r2)) r4).use P4 (s1.trans (s2.trans (s3.trans s4))) fun v G' h' tk' s5 I5 P5 r5=>?_
      rw[show v=_ from r5]
      exact wpAny_truthy_bool (hQ _ G' h' tk' s5 I5 P5 rfl)
theorem ev_neg {e:Expr}{p:Pos}{ma:AM AV}(ha:EvE B A T sc ns env F e ma):EvE B A T sc ns env F (.UnaryOp .USub e p) (zZ ma fun v=>zZ (jW (wY v)) fun i=>zH (.int (-i))):=fun s G H z H' hP I eq Q E hQ=>by
  obtain⟨i,H1,e1,eq⟩:=abind_int eq
  obtain⟨rfl,rfl⟩:=zF eq
  refine wpAny_UnaryOp (ha s G H _ _ hP I e1 _ _ fun v G1 h1 t1 s1 I1 P1 r1=>?_)
  obtain⟨t,rfl⟩:=r1
  exact P.neg_int (hQ _ G1 h1 _ s1 I1 P1 ⟨_,rfl⟩)
theorem ev_not {e:Expr}{p:Pos}{ma:AM AV}(ha:EvE B A T sc ns env F e ma)(hb:EvT B A T sc ns env F e ma){m:AM AV}(hm:m=zZ ma fun v=>zZ (jW (wH v)) fun i=>zH (.bool (!i))):EvE B A T sc ns env F (.UnaryOp .Not e p) m∧EvT B A T sc ns env F (.UnaryOp .Not e p) m:=by
  subst hm
  refine⟨fun s G H z H' hP I eq Q E hQ=>?_,fun s G H z H' hP I eq Q E hQ=>?_⟩
  · obtain⟨i,H1,e1,eq⟩:=JZ eq
    obtain⟨rfl,rfl⟩:=zF eq
    refine wpAny_UnaryOp (ha s G H _ _ hP I e1 _ _ fun v G1 h1 t1 s1 I1 P1 r1=>?_)
    rw[show v=_ from r1]
    exact not_value (wpAny_truthy_bool (hQ _ G1 h1 _ s1 I1 P1 rfl))
  · have eq:=tst_some eq
    obtain⟨i,H1,e1,eq⟩:=JZ eq
    obtain⟨e2,rfl⟩:=zF eq
    cases e2
    refine wpAny_isTrue_Not (hb s G H i _ hP I (tst_of e1) _ _ fun v G1 h1 t1 s1 I1 P1 r1=>?_)
    subst r1
    exact hQ _ G1 h1 _ s1 I1 P1 rfl
theorem ev_ite {c x y:Expr}{p:Pos}{mc mx my:AM AV}(hc:EvT B A T sc ns env F c mc)(hx:EvE B A T sc ns env F x mx∧EvT B A T sc ns env F x mx)(hy:EvE B A T sc ns env F y my∧EvT B A T sc ns env F y my)
    {m:AM AV} (hm:m=zZ mc fun v=>zZ (jW (wH v)) fun t=>if t then mx else my):EvE B A T sc ns env F (.IfExp c x y p) m∧EvT B A T sc ns env F (.IfExp c x y p) m:=by
  subst hm
  refine⟨fun s G H z H' hP I eq Q E hQ=>?_,fun s G H z H' hP I eq Q E hQ=>?_⟩
  · obtain⟨b,H1,e1,eq⟩:=JZ eq
    refine wpAny_IfExp (hc s G H b H1 hP I (tst_of e1) _ _ fun v G1 h1 t1 s1 I1 P1 r1=>?_)
    subst r1
    cases v with
    | true=>exact hx.1 _ G1 H1 z H' P1 I1 eq _ _ fun w G2 h2 t2 s2 I2 P2 r2=>hQ w G2 h2 t2 (s1.trans s2) I2 P2 r2
    | false=>exact hy.1 _ G1 H1 z H' P1 I1 eq _ _ fun w G2 h2 t2 s2 I2 P2 r2=>hQ w G2 h2 t2 (s1.trans s2) I2 P2 r2
  · have eq:=tst_some eq
    obtain⟨b,H1,e1,eq⟩:=JZ eq
    rw[arm_isTrue_IfExp]
    refine wpAny_bind (hc s G H b H1 hP I (tst_of e1) _ _ fun v G1 h1 t1 s1 I1 P1 r1=>?_)
    subst r1
    cases v with
    | true=>exact hx.2 _ G1 H1 z H' P1 I1 (tst_of eq) _ _ fun w G2 h2 t2 s2 I2 P2 r2=>hQ w G2 h2 t2 (s1.trans s2) I2 P2 r2
    | false=>exact hy.2 _ G1 H1 z H' P1 I1 (tst_of eq) _ _ fun w G2 h2 t2 s2 I2 P2 r2=>hQ w G2 h2 t2 (s1.trans s2) I2 P2 r2
noncomputable abbrev EvB (B:Base)(A:Around)(T:Tabs)(sc:Scope)(ns:List (List Nat))(env:Env)(F:AF)(p:Pos)(op:BoolOp)(es:List Expr)(m:AM AV):Prop :=
  (es≠[]→Ev B A (FrOK B T sc ns env F) (boolOp p op (evalEach es env)) (Rep B) m)∧Ev B A (FrOK B T sc ns env F) (allTrue op es env) (fun _ (x:Bool) (b:Bool)=>b=x) (tst m)
theorem evB_nilA {p:Pos}:EvB B A T sc ns env F p .And [] (zH (.bool true)):=⟨fun h=>absurd rfl h,fun s G H x H' hP I eq Q E hQ=>by
  obtain⟨e,rfl⟩:=zF (tst_some eq)
  cases e
  exact wpAny_allTrue_And_nil (hQ _ G _ _ (Step.refl ..) I hP rfl)⟩
theorem evB_nilO {p:Pos}:EvB B A T sc ns env F p .Or [] (zH (.bool false)):=⟨fun h=>absurd rfl h,fun s G H x H' hP I eq Q E hQ=>by
  obtain⟨e,rfl⟩:=zF (tst_some eq)
  cases e
  exact wpAny_allTrue_Or_nil (hQ _ G _ _ (Step.refl ..) I hP rfl)⟩
theorem boolOp_cons {p:Pos}{op:BoolOp}{x y:Sem Value}{r:List (Sem Value)}{M:Model}{E:Value→Shared→Prop}{s:Shared}{Q:Value→Shared→Prop}
    (h : wpAny M A x (fun v s₁=>wpAny M A (truthy v) (fun t s₂=>match op,t with
      | .And,false | .Or,true=>Q v s₂
      | _,_=>wpAny M A (boolOp p op (y::r)) Q E s₂) E s₁) E s):wpAny M A (boolOp p op (x::y::r)) Q E s:=by
  show wpAny M A (do
    let v ←x
    standAt p
    let t ←holding [v] (truthy v)
    match op,t with
    | .And,false | .Or,true=>pure v
    | _,_=>boolOp p op (y::r)) Q E s
  refine wpAny_bind (wpAny_mono h (fun v s₁ h₁=>wpAny_bind (wpAny_standAt (wpAny_bind (wpAny_holding (wpAny_mono h₁ (fun t s₂ h₂=>?_) fun q_ q_ x=>x))))) fun q_ q_ x=>x)
  cases op <;> cases t <;> first | exact wpAny_pure h₂ | exact h₂
theorem evB_consA {p:Pos}{x:Expr}{r:List Expr}{mx mr:AM AV}(hx:EvE B A T sc ns env F x mx∧EvT B A T sc ns env F x mx)(hr:EvB B A T sc ns env F p .And r mr)(hrn:r=[]→mr=zH (.bool true))
    {m:AM AV} (hm:m=zZ mx fun v=>zZ (jW (wH v)) fun t=>if t then mr else zH (.bool false)):EvB B A T sc ns env F p .And (x::r) m:=by
  subst hm
  refine⟨fun q_=>fun s G H z H' hP I eq Q E hQ=>?_,fun s G H z H' hP I eq Q E hQ=>?_⟩
  · obtain ⟨b,H1,e1,eq⟩:=JZ eq
    cases r with
    | nil =>
      refine hx.1 s G H (.bool b) H1 hP I e1 _ _ fun v G1 h1 t1 s1 I1 P1 r1=>?_
      rw[hrn rfl] at eq
      cases b with
      | true=>obtain⟨rfl,rfl⟩:=zF eq;exact hQ v G1 h1 t1 s1 I1 P1 r1
      | false=>obtain⟨rfl,rfl⟩:=zF eq;exact hQ v G1 h1 t1 s1 I1 P1 r1
    | cons y r =>
      refine boolOp_cons (hx.1 s G H (.bool b) H1 hP I e1 _ _ fun v G1 h1 t1 s1 I1 P1 r1=>?_)
      rw[show v=_ from r1]
      refine wpAny_truthy_bool ?_
      cases b with
      | true=>exact hr.1 (List.cons_ne_nil _ _) _ G1 H1 z H' P1 I1 eq _ _ fun w G2 h2 t2 s2 I2 P2 r2=>hQ w G2 h2 t2 (s1.trans s2) I2 P2 r2
      | false=>obtain⟨rfl,rfl⟩:=zF eq;exact hQ _ G1 h1 t1 s1 I1 P1 rfl
  · have eq:=tst_some eq
    obtain⟨b,H1,e1,eq⟩:=JZ eq
    refine wpAny_allTrue_And_cons (hx.2 s G H b H1 hP I (tst_of e1) _ _ fun v G1 h1 t1 s1 I1 P1 r1=>?_)
    subst r1
    cases v with
    | true=>exact hr.2 _ G1 H1 z H' P1 I1 (tst_of eq) _ _ fun w G2 h2 t2 s2 I2 P2 r2=>hQ w G2 h2 t2 (s1.trans s2) I2 P2 r2
    | false=>obtain⟨e,rfl⟩:=zF eq;cases e;exact hQ _ G1 h1 t1 s1 I1 P1 rfl
theorem evB_consO {p:Pos}{x:Expr}{r:List Expr}{mx mr:AM AV}(hx:EvE B A T sc ns env F x mx∧EvT B A T sc ns env F x mx)(hr:EvB B A T sc ns env F p .Or r mr)(hrn:r=[]→mr=zH (.bool false))
    {m:AM AV} (hm:m=zZ mx fun v=>zZ (jW (wH v)) fun t=>if t then zH (.bool true) else mr):EvB B A T sc ns env F p .Or (x::r) m:=by
  subst hm
  refine⟨fun q_=>fun s G H z H' hP I eq Q E hQ=>?_,fun s G H z H' hP I eq Q E hQ=>?_⟩
  · obtain ⟨b,H1,e1,eq⟩:=JZ eq
    cases r with
    | nil =>
      refine hx.1 s G H (.bool b) H1 hP I e1 _ _ fun v G1 h1 t1 s1 I1 P1 r1=>?_
      rw[hrn rfl] at eq
      cases b with
      | true=>obtain⟨rfl,rfl⟩:=zF eq;exact hQ v G1 h1 t1 s1 I1 P1 r1
      | false=>obtain⟨rfl,rfl⟩:=zF eq;exact hQ v G1 h1 t1 s1 I1 P1 r1
    | cons y r =>
      refine boolOp_cons (hx.1 s G H (.bool b) H1 hP I e1 _ _ fun v G1 h1 t1 s1 I1 P1 r1=>?_)
      rw[show v=_ from r1]
      refine wpAny_truthy_bool ?_
      cases b with
      | false=>exact hr.1 (List.cons_ne_nil _ _) _ G1 H1 z H' P1 I1 eq _ _ fun w G2 h2 t2 s2 I2 P2 r2=>hQ w G2 h2 t2 (s1.trans s2) I2 P2 r2
      | true=>obtain⟨rfl,rfl⟩:=zF eq;exact hQ _ G1 h1 t1 s1 I1 P1 rfl
  · have eq:=tst_some eq
    obtain⟨b,H1,e1,eq⟩:=JZ eq
    refine wpAny_allTrue_Or_cons (hx.2 s G H b H1 hP I (tst_of e1) _ _ fun v G1 h1 t1 s1 I1 P1 r1=>?_)
    subst r1
    cases v with
    | false=>exact hr.2 _ G1 H1 z H' P1 I1 (tst_of eq) _ _ fun w G2 h2 t2 s2 I2 P2 r2=>hQ w G2 h2 t2 (s1.trans s2) I2 P2 r2
    | true=>obtain⟨e,rfl⟩:=zF eq;cases e;exact hQ _ G1 h1 t1 s1 I1 P1 rfl
end
end
section
open PySem PySem.W PyProof.Rows PySem.Calls
theorem clip_eq {n d:Nat}{p:Option Int}(h:∀ i,p=some i → -1≤i):clip n d p=p.elim d (clipAt n):=rfl
theorem clipAt_le (n:Nat)(i:Int):clipAt n i≤n:=Int.ofNat_le.mp (clipAt_cast n i▸Int.max_le.mpr ⟨Int.natCast_nonneg n,Int.min_le_right _ _⟩)
theorem clip_le {n d:Nat}{p:Option Int}(hd:d≤n)(h:∀ i,p=some i → -1≤i):clip n d p≤n:=by
  cases p with
  | none=>exact hd
  | some i=>exact clipAt_le n i
theorem cut_eq {α:Type}(xs:List α)(lo hi:Option Int):cut xs lo hi=(xs.drop (clip xs.length 0 lo)).take (clip xs.length xs.length hi-clip xs.length 0 lo):=by
  unfold cut
  rw[List.drop_take]
section
variable {B:Base}{G:St}{H:AH}{s:Shared}
theorem repL_take {xs:List AV}{vs:List Value}(r:RepL B G xs vs):∀ n,RepL B G (xs.take n) (vs.take n):=by
  induction xs generalizing vs with
  | nil=>intro n;rw[show vs=[] from r,List.take_nil,List.take_nil];exact rfl
  | cons x xs ih =>
    obtain⟨v,q,rfl,a,b⟩:=r
    intro n
    cases n with
    | zero=>exact rfl
    | succ n=>exact⟨v,_,rfl,a,ih b n⟩
theorem repL_drop {xs:List AV}{vs:List Value}(r:RepL B G xs vs):∀ n,RepL B G (xs.drop n) (vs.drop n):=by
  induction xs generalizing vs with
  | nil=>intro n;rw[show vs=[] from r,List.drop_nil,List.drop_nil];exact rfl
  | cons x xs ih =>
    obtain⟨v,q,rfl,a,b⟩:=r
    intro n
    cases n with
    | zero=>exact⟨v,_,rfl,a,b⟩
    | succ n=>exact ih b n
theorem repL_cut {xs:List AV}{vs:List Value}(r:RepL B G xs vs)(lo hi:Option Int):RepL B G (cut xs lo hi) (cut vs lo hi):=by
  unfold cut
  rw[r.len]
  exact repL_drop (repL_take r _) _
theorem part_some {x:AV}{v:Value}{p:Option Int}(e:part x=some p)(r:Rep B G x v):(∀ i,p=some i → -1≤i)∧∃ q:Option (Int×Tok),v=partValue q∧p=q.map (·.1)∧IsPart v p:=by
  cases x with
  | none=>cases e;rw[show v=Value.none from r];exact⟨(fun i h=>nomatch h),none,rfl,rfl,IsPart.none⟩
  | int i =>
    replace e:(if -1≤i&&decide (i<2 ^ 62) then some (some i) else none)=some p:=e
    obtain⟨t,rfl⟩:=r
    by_cases h:(decide (-1≤i)&&decide (i<2 ^ 62))=true
    · rw[if_pos h] at e
      cases e
      have h:=of_decide_eq_true ((Bool.and_eq_true _ _).mp h).1
      exact⟨fun j hj=>by cases hj;exact h,some (i,t),rfl,rfl,.int i t⟩
    · rw[if_neg h] at e
      cases e
  | _=>cases e
end
section
variable {prog:Program}{w:World}{A:Around}{E:Value→Shared→Prop}{s:Shared}
theorem slicePart_any {v:Value}{p:Option Int}{Q:Option Int→Shared→Prop}(h:IsPart v p)(hq:Q p s):wpAny (model prog w) A (Builtin.Slice.slicePartIndex v) Q E s:=by
  cases h with
  | none=>exact slicePart_none hq
  | int i t=>exact slicePart_int hq
theorem adj1 (n:Nat)(v:Int):(if v<0 then max (v+n) 0 else min v n)=((clipAt n v:Nat):Int):=by
  rw[clipAt_cast]
  by_cases h:v<0
  · rw[if_pos h,if_pos h,Int.max_comm,Int.min_eq_left (Int.le_of_lt (Int.add_lt_of_lt_sub_right (by rw[Int.sub_self];exact h)))]
  · rw[if_neg h,if_neg h,Int.max_eq_right (Int.le_min.mpr ⟨Int.not_lt.mp h,Int.natCast_nonneg n⟩)]
theorem adjust_plain (n:Nat)(lo hi:Option Int)(h1:∀ i,lo=some i → -1≤i)(h2:∀ i,hi=some i → -1≤i) :
    Builtin.Slice.sliceAdjust lo hi 1 (n:Int)=(((clip n 0 lo:Nat):Int),((clip n n hi:Nat):Int)):=by
  cases lo with
  | none=>cases hi with
    | none=>rfl
    | some j=>exact congrArg (Prod.mk _) (adj1 n j)
  | some i=>cases hi with
    | none=>exact congrArg (Prod.mk · _) (adj1 n i)
    | some j=>exact(congrArg (Prod.mk · _) (adj1 n i)).trans (congrArg (Prod.mk _) (adj1 n j))
theorem places_plain (a b:Nat):Builtin.Slice.slicePlaces (a:Int) (b:Int) 1=b-a:=by
  show(if(a:Int)<(b:Int) then((b:Int)-a-1) / 1+1 else 0).toNat=b-a
  by_cases h:a<b
  · rw[if_pos (Int.ofNat_lt.mpr h),Int.ediv_one,Int.sub_add_cancel,←Int.ofNat_sub (Nat.le_of_lt h)];rfl
  · rw[if_neg (fun q=>h (Int.ofNat_lt.mp q)),Nat.sub_eq_zero_of_le (Nat.not_lt.mp h)];rfl
theorem sliceApplied_plain {sl:Addr}{n:Nat}{vl vu:Value}{lo hi:Option Int}{Q:Int×Int×Nat→Shared→Prop}(hs:s.heap.IsSliceOf sl vl vu .none)(pl:IsPart vl lo)(pu:IsPart vu hi)
    (h1:∀ i,lo=some i → -1≤i) (h2:∀ i,hi=some i → -1≤i) (h:Q (((clip n 0 lo:Nat):Int),1,clip n n hi-clip n 0 lo) s) :
    wpAny (model prog w) A (Builtin.Slice.sliceApplied (.ref sl) (pure (n:Int))) Q E s:=by
  obtain⟨os,hos,hcs,hds⟩:=id hs
  unfold Builtin.Slice.sliceApplied Builtin.Slice.sliceFields
  refine wpAny_bind (wpAny_bind (wpAny_field hos hds (x:=vl) rfl (wpAny_bind (wpAny_field hos hds (x:=vu) rfl (wpAny_bind (wpAny_field hos hds (x := .none) rfl (wpAny_pure ?_)))))))
  refine wpAny_bind (slicePart_none ?_)
  show wpAny _ _ (if((1:Int)==0)=true then _ else _) _ _ s
  rw[if_neg (by decide)]
  refine wpAny_bind (slicePart_any pl (wpAny_bind (slicePart_any pu (wpAny_bind (wpAny_pure ?_)))))
  show wpAny _ _ (match Builtin.Slice.sliceAdjust lo hi 1 (n:Int) with | (lo,hi)=>pure (lo,(1:Int),Builtin.Slice.slicePlaces lo hi 1)) _ _ s
  rw[adjust_plain n lo hi h1 h2]
  show wpAny _ _ (pure (((clip n 0 lo:Nat):Int),(1:Int),Builtin.Slice.slicePlaces ((clip n 0 lo:Nat):Int) ((clip n n hi:Nat):Int) 1)) _ _ s
  rw[places_plain]
  exact wpAny_pure h
theorem pick_plain (xs:Array Value)(a k:Nat):((List.range k).filterMap fun(j:Nat)=>xs[((a:Int)+(j:Int) * 1).toNat]?).toArray=((xs.toList.drop a).take k).toArray:=by
  have e:(fun(j:Nat)=>xs[((a:Int)+(j:Int) * 1).toNat]?)=fun j=>xs[a+j]?:=by
    funext j
    have:((a:Int)+(j:Int) * 1).toNat=a+j:=by rw[Int.mul_one];rfl
    rw[this]
  rw[e]
  have:=pick_run xs a k
  rw[List.filterMap_map] at this
  exact congrArg List.toArray this
set_option tactic.hygienic true in
theorem getItem_tuple_slice {t sl:Addr}{items:Array Value}{vl vu:Value}{lo hi:Option Int}{Q:Value→Shared→Prop}(ht:s.heap.IsTuple t items)(hs:s.heap.IsSliceOf sl vl vu .none)(pl:IsPart vl lo)(pu:IsPart vu hi)
    (h1:∀ i,lo=some i → -1≤i) (h2:∀ i,hi=some i → -1≤i) (hsz:items.size≤sizeLine)
    (hw:cut items.toList lo hi=items.toList→Q (.ref t) s)
    (h:Q (.ref s.heap.objs.size) { s with heap:=s.heap.push { cls := .type "tuple",data := .seq (cut items.toList lo hi).toArray } }):wpAny (model prog w) A (getItem (.ref t) (.ref sl)) Q E s:=by
  have hcl:(cut items.toList lo hi).length≤sizeLine:=by
    unfold cut
    rw[List.length_drop,List.length_take,Array.length_toList]
    exact Nat.le_trans (Nat.sub_le _ _) (Nat.le_trans (Nat.min_le_right _ _) hsz)
  have hdrop:sizeOk (.seq (cut items.toList lo hi).toArray):=by
    show(cut items.toList lo hi).toArray.size≤sizeLine
    rw[List.size_toArray];exact hcl
  obtain⟨os,hos,hcs,hds⟩:=id hs
  have hTs:s.TypeIs (.ref sl) "slice" :=⟨os,hos,hcs⟩
  have htt:s.TypeIs (.ref t) "tuple" :=PyProof.Rows.IsTup.typeIs ht
  have ec:=cut_eq items.toList lo hi
  rw[Array.length_toList] at ec
  unfold getItem
  try with_reducible refine wpAny_holding ?_
  first | refine wpAny_bind (wpAny_pure ?_) | skip
  refine wpAny_bind (wpAny_sequenceKey htt (by decide) ?_)
  refine wpAny_bind (wpAny_callSpecial?_slot (name:=Str.ofString "__getitem__") htt slot_tuple_getitem
    (wpAny_call_entry slot_tuple_getitem htt entry_tuple_getitem ?_ (args_tuple_getitem _ _)))
  show wpAny _ _ (Builtin.Tuple.tupleItemsOf (.ref t) >>= _) _ _ s
  refine wpAny_bind (tupleItemsOf_ ht ?_)
  refine wpAny_bind (wpAny_typeOf hTs ?_)
  rw[if_pos (by decide)]
  refine wpAny_bind (sliceApplied_plain hs pl pu h1 h2 ?_)
  show wpAny _ _ (if(((clip items.size 0 lo:Nat):Int)==0&&(1:Int)==1&&(clip items.size items.size hi-clip items.size 0 lo)==items.size)=true then _ else _) _ _ s
  split
  · rename_i hc
    simp only[Bool.and_eq_true,beq_iff_eq] at hc
    have hcut:cut items.toList lo hi=items.toList:=by
      rw[ec]
      have e0:clip items.size 0 lo=0:=Int.natCast_eq_zero.mp hc.1.1
      rw[e0,List.drop_zero,List.take_of_length_le]
      rw[Array.length_toList];exact Nat.le_of_eq (hc.2.symm.trans (by rw[e0]))
    refine wpAny_bind (wpAny_bind (wpAny_typeOf htt (wpAny_pure ?_)))
    rw[if_pos (by decide)]
    exact wpAny_bind (wpAny_rule (wpAny_pure ⟨_,rfl,wpAny_pure (hw hcut)⟩))
  · rw [pick_plain,←ec]
    first
      | exact wpAny_bind (m:=Builtin.Tuple.tupleExact _) (wpAny_newObj_type (wpAny_pure ⟨_,rfl,wpAny_pure h⟩) hdrop)
      | exact wpAny_bind (m:=Builtin.Tuple.tupleExact _) (wpAny_newObj_type (wpAny_bind (wpAny_pure (wpAny_pure ⟨_,rfl,wpAny_pure h⟩))) hdrop)
      | exact wpAny_bind (wpAny_bind (m:=Builtin.Tuple.tupleExact _) (wpAny_newObj_type (wpAny_pure (wpAny_pure ⟨_,rfl,wpAny_pure h⟩)) hdrop))
      | exact wpAny_bind (wpAny_bind (m:=Builtin.Tuple.tupleExact _) (wpAny_newObj_type (wpAny_pure ⟨_,rfl,wpAny_pure h⟩) hdrop))
theorem sub_slice {env:Env}{value:Expr}{lower upper:Option Expr}{p pos:Pos}{Q:Value→Shared→Prop}
    (h : wpAny (model prog w) A (eval value env) (fun o s₁=>wpAny (model prog w) A (eval (.Slice lower upper none p) env) (fun i s₂=>∃ T id,s₂.TypeIs o T∧typeLookup (.type T) "__getitem__" = pure (some (.builtin id)) ∧
      wpAny (model prog w) A (getItem o i) Q E s₂) E s₁) E s) :
    wpAny (model prog w) A (eval (.Subscript value (.Slice lower upper none p) pos) env) Q E s:=by
  rw[eval_Subscript]
  refine wpAny_bind (wpAny_mono h (fun o s₁ h₁=>wpAny_bind (wpAny_holding (wpAny_mono h₁ (fun i s₂ h₂=>wpAny_bind (wpAny_standAt ?_)) fun q_ q_ x=>x)))
    fun q_ q_ x=>x)
  refine via fun R_ k_=>?_
  obtain⟨T,id,hT,hl,hg⟩:=h₂
  refine k_ ?_
  have fin:wpAny (model prog w) A (operate [i,o] (getItem o i)) (fun r s₃=>wpAny (model prog w) A (letTemporaryGo value o r >>= fun q_=>pure r) Q E s₃) E s₂ :=
    wpAny_operating (wpAny_mono hg (fun r s₃ h₃=>wpAny_bind (wpAny_letTemporaryGo (wpAny_pure h₃))) fun q_ q_ x=>x)
  refine wpAny_bind ?_
  rw[getitemInPython_of_ne hT.not_modules]
  refine wpAny_bind (wpAny_specialOf hT hl ?_)
  first
    | exact wpAny_pure (wpAny_bind fin)
    | exact wpAny_bind (wpAny_pure (wpAny_bind fin))
    | exact wpAny_bind fin
theorem sub_item {env:Env}{value slice:Expr}{pos:Pos}{Q:Value→Shared→Prop}(hs:∀ l u p,slice ≠ .Slice l u none p)
    (h : wpAny (model prog w) A (eval value env) (fun o s₁=>wpAny (model prog w) A (eval slice env) (fun i s₂=>∃ T id,s₂.TypeIs o T∧typeLookup (.type T) "__getitem__" = pure (some (.builtin id)) ∧
      wpAny (model prog w) A (getItem o i) Q E s₂) E s₁) E s) :
    wpAny (model prog w) A (eval (.Subscript value slice pos) env) Q E s:=by
  rw[eval_Subscript]
  refine wpAny_bind (wpAny_mono h (fun o s₁ h₁=>wpAny_bind (wpAny_holding (wpAny_mono h₁ (fun i s₂ h₂=>wpAny_bind (wpAny_standAt ?_)) fun q_ q_ x=>x)))
    fun q_ q_ x=>x)
  refine via fun R_ k_=>?_
  obtain⟨T,id,hT,hl,hg⟩:=h₂
  refine k_ ?_
  have e:subscripted slice false o i=operate [o,i] (getItem o i):=by
    cases slice with
    | Slice l u st p=>cases st with
      | none=>exact absurd rfl (hs l u p)
      | some q=>rfl
    | _=>rfl
  have fin:wpAny (model prog w) A (subscripted slice false o i) (fun r s₃=>wpAny (model prog w) A (letTemporaryGo value o r >>= fun q_=>pure r) Q E s₃) E s₂:=by
    rw[e]
    exact wpAny_operating (wpAny_mono hg (fun r s₃ h₃=>wpAny_bind (wpAny_letTemporaryGo (wpAny_pure h₃))) fun q_ q_ x=>x)
  refine wpAny_bind ?_
  rw[getitemInPython_of_ne hT.not_modules]
  refine wpAny_bind (wpAny_specialOf hT hl ?_)
  first
    | exact wpAny_pure (wpAny_bind fin)
    | exact wpAny_bind (wpAny_pure (wpAny_bind fin))
    | exact wpAny_bind fin
end
end
section
open PySem PySem.W PyProof.Rows PySem.Calls
section
variable {B:Base}{A:Around}{G:St}{H:AH}{s:Shared}
set_option tactic.hygienic true in
theorem at_some {α:Type}{xs:List α}{i:Int}{x:α}(e:at? xs i=some x) :
    (0≤i∧i<2 ^ 62∧xs[i.toNat]? = some x)∨(i<0 ∧ -(xs.length:Int)≤i ∧ -1000≤i∧xs[(i+xs.length).toNat]? = some x):=by
  unfold at? at e
  split at e
  · split at e
    · exact .inl ⟨by assumption,by assumption,e⟩
    · cases e
  · split at e
    · rename_i h1 h2
      exact .inr ⟨Int.not_le.mp h1,h2.1,h2.2,e⟩
    · cases e
theorem at_seq {α:Type}{xs:List α}{i:Int}{x:α}(e:at? xs i=some x) : -(2 ^ 63)≤i∧i<2 ^ 63∧∃ j,seqIndex? i xs.length=some j∧xs[j]? = some x:=by
  rcases at_some e with⟨a,b,c⟩ | ⟨a,b,c,d⟩
  · refine⟨Int.le_trans (by decide) a,Int.lt_trans b (by decide),i.toNat,?_,c⟩
    have hlt:i.toNat<xs.length:=(List.getElem?_eq_some_iff.mp c).1
    have q:(if i<0 then i+(xs.length:Int) else i)=i:=if_neg (Int.not_lt.mpr a)
    simp only[seqIndex?,q]
    rw[if_pos (by simp only[Bool.and_eq_true,decide_eq_true_eq];exact⟨a,(Int.toNat_lt a).mp hlt⟩)]
  · refine⟨Int.le_trans (by decide) c,Int.lt_trans a (by decide),(i+xs.length).toNat,?_,d⟩
    have hlt:(i+xs.length).toNat<xs.length:=(List.getElem?_eq_some_iff.mp d).1
    have q:(if i<0 then i+(xs.length:Int) else i)=i+(xs.length:Int):=if_pos a
    have p:0≤i+(xs.length:Int):=by have:=Int.add_le_add_right b (xs.length:Int);rwa [Int.add_left_neg] at this
    simp only[seqIndex?,q]
    rw[if_pos (by simp only[Bool.and_eq_true,decide_eq_true_eq];exact⟨p,(Int.toNat_lt p).mp hlt⟩)]
noncomputable def Item (B:Base)(A:Around)(G:St)(H:AH)(z:AV)(v w:Value)(s:Shared):Prop :=
  ∃ T id,s.TypeIs v T∧typeLookup (.type T) "__getitem__" = pure (some (.builtin id))∧Yields B A (getItem v w) G H H z s
theorem list_item {xs:List AV}{i:Int}{z:AV}{a:Addr}{vs:Array Value}{t:Tok}(I:Inv B G H s.heap)(hl:s.heap.IsList a vs)(r:RepL B G xs vs.toList)(e:at? xs i=some z) :
    Item B A G H z (.ref a) (.int i t) s:=by
  refine⟨"list",_,hl.typeIs,list_getitem_lookup,?_⟩
  rcases at_some e with⟨h0,h1,h2⟩ | ⟨h0,h1,h2,h3⟩
  · obtain⟨v,hv,rv⟩:=repL_get r _ _ h2
    rw[Array.getElem?_toList] at hv
    exact yields_val I rv fun Q E hQ=>wpAny_getItem_list hl h0 (by omega) hv (hQ s.toks)
  · obtain⟨v,hv,rv⟩:=repL_get r _ _ h3
    rw[Array.getElem?_toList] at hv
    have:=ZQ r
    exact yields_val I rv fun Q E hQ=>wpAny_getItem_list_neg hl h0 (by omega) (by omega) (by rw[this];exact hv) (hQ s.toks)
theorem op_sub {x y z:AV}{v w:Value}(e:asub H x y=some z)(I:Inv B G H s.heap)(rx:Rep B G x v)(ry:Rep B G y w):Item B A G H z v w s:=by
  obtain⟨i,hi,e⟩:=bind_some (o:=wY y) e
  have hi:=wF hi
  subst hi
  obtain⟨t,rfl⟩:=ry
  cases x with
  | tup xs =>
    obtain⟨a,vs,rfl,ha,ra⟩:=isTup I rx
    obtain⟨h0,h1,j,hj,hx⟩:=at_seq e
    obtain⟨v,hv,rv⟩:=repL_get ra _ _ hx
    rw[Array.getElem?_toList] at hv
    exact⟨"tuple",_,PyProof.Rows.IsTup.typeIs ha,slot_tuple_getitem.lookup,yields_val I rv fun Q E hQ=>PyProof.Rows.getItem_tuple ha h0 h1 (by rw[ZQ ra];exact hj) hv (hQ s.toks)⟩
  | lst xs =>
    obtain⟨a,vs,rfl,ha,ra⟩:=isLst I rx
    exact list_item I ha ra e
  | str cs =>
    obtain⟨u,rfl⟩:=rx
    by_cases h0:0≤i
    · obtain⟨c,e',rfl⟩:=wA (o:=at? cs i) (show(at? cs i).map _=some z from(if_pos h0).symm.trans e)
      obtain⟨h0,h1,j,hj,hx⟩:=at_seq e'
      refine⟨"str",_,typeIs_str s _ u,F.slot_str_getitem.lookup,yields_str I fun Q E hQ=>PyProof.Rows.getItem_str (c:=c) (by rw[Bool.or_eq_false_iff];exact⟨decide_eq_false (by omega),decide_eq_false (by omega)⟩) ?_ (hQ _ _)⟩
      rw[ZF,hj]
      show(toS _).cps[j]? = some c
      simpa[toS] using hx
    · exact nos ((if_neg h0).symm.trans e)
  | dct kvs =>
    obtain⟨p,e',rfl⟩:=wA (o:=kvs.find? fun p:Int×AV=>decide (i=p.1)) (f:=fun p=>p.2) e
    obtain⟨a,f,rfl,hm,hf⟩:=intMap I rx
    have:=hf i
    rw[e'] at this
    cases hfi:f i with
    | none=>rw[hfi] at this;exact this.elim
    | some v =>
      rw[hfi] at this
      exact⟨"dict",_,hm.typeIs,slot_dict_getitem.lookup,yields_val I this fun Q E hQ=>wpAny_getItem_intMap hm hfi (hQ _)⟩
  | obj n =>
    obtain⟨xs,hH,e⟩:=bind_some (o:=listAt H n) e
    obtain⟨p,hp,rfl⟩:=rx
    obtain⟨e1,vs,n,hg,ra⟩:=I.objs _ _ _ (listAt_some hH) hp
    exact list_item I ⟨_,hg,rfl,n,rfl⟩ ra e
  | _=>exact nos e
end
section
variable {B:Base}{A:Around}{T:Tabs}{sc:Scope}{ns:List (List Nat)}{env:Env}{F:AF}
theorem ev_sub {a i:Expr}{p:Pos}{ma mi:AM AV}(hs:isSlice i=false)(ha:EvE B A T sc ns env F a ma)(hi:EvE B A T sc ns env F i mi) :
    EvE B A T sc ns env F (.Subscript a i p) (zZ ma fun x=>zZ mi fun y=>aread fun H=>asub H x y):=fun s G H z H' hP I eq Q E hQ=>by
  obtain⟨x,H1,e1,eq⟩:=zJ eq
  obtain⟨y,H2,e2,eq⟩:=zJ eq
  obtain⟨e3,rfl⟩:=aread_some eq
  refine sub_item (fun l u q h=>by subst h;exact bad hs.symm) (ha s G H x H1 hP I e1 _ _ fun v G1 h1 t1 s1 I1 P1 r1=>?_)
  refine hi _ G1 H1 y _ P1 I1 e2 _ _ fun u G2 h2 t2 s2 I2 P2 r2=>?_
  refine via fun R_ k_=>?_
  obtain⟨T',id,hT,hl,hy⟩:=op_sub (A:=A) (s:={ s with heap:=h2,toks:=t2 }) e3 I2 (s2.rep r1) r2
  refine k_ ?_
  exact⟨T',id,hT,hl,hy.use P2 (s1.trans s2) fun v G' h' tk'=>hQ v G' h' tk'⟩
noncomputable abbrev EvP (B:Base)(A:Around)(T:Tabs)(sc:Scope)(ns:List (List Nat))(env:Env)(F:AF)(e:Option Expr)(m:AM AV):Prop :=
  Ev B A (FrOK B T sc ns env F) (evalPart e env) (Rep B) m
theorem evp_none:EvP B A T sc ns env F none (zH .none):=fun s G H x H' hP I e Q E hQ=>by
  obtain⟨rfl,rfl⟩:=zF e
  exact wpAny_pure (hQ .none G s.heap s.toks (Step.refl ..) I hP rfl)
theorem cut_length {α:Type}(xs:List α)(lo hi:Option Int):(cut xs lo hi).length≤xs.length:=by
  unfold cut
  rw[List.length_drop,List.length_take]
  exact Nat.le_trans (Nat.sub_le _ _) (Nat.min_le_right _ _)
theorem strCut (cs:List Nat)(lo hi:Option Int)(h1:∀ i,lo=some i → -1≤i)(h2:∀ i,hi=some i → -1≤i) :
    Builtin.Str.strSliceIndices lo hi 1 cs.length=(List.range (clip cs.length cs.length hi-clip cs.length 0 lo)).map (clip cs.length 0 lo+·):=by
  refine Eq.trans ?_ (sliceRange_one _ _)
  cases lo with
  | none=>cases hi with
    | none=>rfl
    | some j=>exact congrArg (sliceRange _ · 1) (clipAt_cast cs.length j).symm
  | some i=>cases hi with
    | none=>exact congrArg (sliceRange · _ 1) (clipAt_cast cs.length i).symm
    | some j=>exact(congrArg (sliceRange · _ 1) (clipAt_cast cs.length i).symm).trans (congrArg (sliceRange _ · 1) (clipAt_cast cs.length j).symm)
section
variable {G:St}{H:AH}{s:Shared}
theorem slc_lst {xs:List AV}{lo hi:Option Int}{a b:Addr}{v2 v3:Value}{vs:Array Value}(I:Inv B G H s.heap)(sl:s.heap.IsSliceOf a v2 v3 .none)(n1:∀ i,lo=some i → -1≤i)(n2:∀ i,hi=some i → -1≤i)(k1:IsPart v2 lo)(k2:IsPart v3 hi)
    (hb:s.heap.IsList b vs) (ra:RepL B G xs vs.toList) (hz:xs.length≤1048576):Item B A G H (.lst (cut xs lo hi)) (.ref b) (.ref a) s:=by
  refine⟨"list",_,hb.typeIs,list_getitem_lookup,?_⟩
  have hsz:=ZQ ra
  refine yields_lst (vs:=slicePick vs lo hi none) I ?_ fun Q E hQ=>wpAny_getItem_list_slice hb sl k1 k2 .none (by simp) (hQ s.toks) (by rw[hsz,sizeLine_eq];omega)
  rw[slicePick_plain,←clip_eq n1,←clip_eq n2]
  have:=repL_cut ra lo hi
  rw[cut_eq,cut_eq,Array.length_toList] at this
  rw[cut_eq]
  exact this
set_option tactic.hygienic true in
theorem slc_str {cs:List Nat}{a:Addr}{t:Tok}{p1 p2:Option (Int×Tok)}(I:Inv B G H s.heap)(sl:s.heap.IsSliceOf a (partValue p1) (partValue p2) .none)(n1:∀ i,p1.map (·.1)=some i → -1≤i)(n2:∀ i,p2.map (·.1)=some i → -1≤i)
    (hz:cs.length≤1048576):Item B A G H (.str (cut cs (p1.map (·.1)) (p2.map (·.1)))) (.str (toS cs) t) (.ref a) s:=by
  refine⟨"str",_,typeIs_str _ _ t,PySem.F.slot_str_getitem.lookup,?_⟩
  generalize q1':p1.map (·.1)=lo at n1
  generalize q2':p2.map (·.1)=hi at n2
  refine yields_str I fun Q E hQ=>wpAny_getItem_str_slice (l:=p1) (u:=p2) (st:=none) sl rfl ?_
  have ep:slicePicked (toS cs) p1 p2 none=(List.range (clip cs.length cs.length hi-clip cs.length 0 lo)).map (clip cs.length 0 lo+·):=by
    unfold slicePicked
    rw[q1',q2',ZF]
    exact strCut cs lo hi n1 n2
  have l1:=clip_le (Nat.zero_le cs.length) n1
  have l2:=clip_le (Nat.le_refl cs.length) n2
  unfold sliceMade
  split
  · rename_i hw
    simp only[Bool.and_eq_true,beq_iff_eq] at hw
    rw[ep,List.length_map,List.length_range,ZF] at hw
    have:cut cs lo hi=cs:=by
      rw[cut_eq]
      have e0:clip cs.length 0 lo=0:=by omega
      rw[e0,List.drop_zero,List.take_of_length_le (by omega)]
    rw[this] at hQ
    exact hQ t s.toks
  · rw [ep]
    have e6:(⟨((List.range (clip cs.length cs.length hi-clip cs.length 0 lo)).map (clip cs.length 0 lo+·)).filterMap ((toS cs).cps[·]?) |>.toArray⟩:Str)=toS (cut cs lo hi):=by
      unfold toS
      rw[pick_run cs.toArray,cut_eq]
    rw[e6]
    exact⟨by rw[ZF,sizeLine_eq];have:=cut_length cs lo hi;omega,hQ _ _⟩
theorem slc_tup {xs:List AV}{lo hi:Option Int}{a:Addr}{v v2 v3:Value}(I:Inv B G H s.heap)(sl:s.heap.IsSliceOf a v2 v3 .none)(n1:∀ i,lo=some i → -1≤i)(n2:∀ i,hi=some i → -1≤i)(k1:IsPart v2 lo)(k2:IsPart v3 hi)
    (r:Rep B G (.tup xs) v) (hz:xs.length≤1048576):Item B A G H (.tup (cut xs lo hi)) v (.ref a) s:=by
  obtain⟨b,vs,n,rfl,g,ra⟩:=r
  have hb:s.heap.IsTuple b vs:=⟨_,I.sub _ _ g,rfl,n,rfl⟩
  have hsz:=ZQ ra
  refine⟨"tuple",_,PyProof.Rows.IsTup.typeIs hb,slot_tuple_getitem.lookup,?_⟩
  intro Q E hQ
  have rc:=repL_cut ra lo hi
  refine getItem_tuple_slice hb sl k1 k2 n1 n2 (by rw[hsz,sizeLine_eq];omega) (fun hw=>?_) ?_
  · rw[hw] at rc
    exact hQ _ _ _ s.toks (Step.refl ..) I ⟨b,vs,n,rfl,g,rc⟩
  · have st:=Step.alloc I (tplO (cut vs.toList lo hi).toArray 0)
    exact hQ _ _ _ s.toks st (I.alloc _ rfl) ⟨_,_,0,rfl,St.put_at ..,st.repL (by simpa using rc)⟩
theorem op_slc {a:Addr}{x l u z:AV}{v1 v2 v3:Value}(e:aslc H x l u=some z)(I:Inv B G H s.heap)(sl:s.heap.IsSliceOf a v2 v3 .none)(r1:Rep B G x v1)(r2:Rep B G l v2)(r3:Rep B G u v3):Item B A G H z v1 (.ref a) s:=by
  refine via fun R_ k_=>?_
  obtain⟨lo,el,e⟩:=bind_some (o:=part l) e
  obtain⟨hi,eh,e⟩:=bind_some (o:=part u) e
  obtain⟨n1,p1,q1,q1',k1⟩:=part_some el r2
  obtain⟨n2,p2,q2,q2',k2⟩:=part_some eh r3
  refine k_ ?_
  cases x with
  | tup xs =>
    obtain⟨hz,rfl⟩:=wJ e
    exact slc_tup I sl n1 n2 k1 k2 r1 hz
  | lst xs =>
    obtain⟨hz,rfl⟩:=wJ e
    obtain⟨b,vs,rfl,hb,ra⟩:=isLst I r1
    exact slc_lst I sl n1 n2 k1 k2 hb ra hz
  | row xs =>
    obtain⟨hz,rfl⟩:=wJ e
    obtain⟨b,vs,rfl,hb,ra⟩:=isRow I r1
    exact slc_lst I sl n1 n2 k1 k2 hb ra hz
  | str cs =>
    obtain⟨hz,rfl⟩:=wJ e
    obtain⟨t,rfl⟩:=r1
    subst q1;subst q2;subst q1';subst q2'
    exact slc_str I sl n1 n2 hz
  | obj n =>
    obtain⟨xs,hH,e⟩:=bind_some (o:=listAt H n) e
    obtain⟨hz,rfl⟩:=wJ e
    obtain⟨p,hp,rfl⟩:=r1
    obtain⟨e1',vs,n,hg,ra⟩:=I.objs _ _ _ (listAt_some hH) hp
    exact slc_lst I sl n1 n2 k1 k2 ⟨_,hg,rfl,n,rfl⟩ ra hz
  | _=>exact nos e
end
theorem ev_slc {a:Expr}{l u:Option Expr}{p q:Pos}{ma ml mu:AM AV}(ha:EvE B A T sc ns env F a ma)(hl:EvP B A T sc ns env F l ml)(hu:EvP B A T sc ns env F u mu) :
    EvE B A T sc ns env F (.Subscript a (.Slice l u none q) p) (zZ ma fun x=>zZ ml fun l=>zZ mu fun h=>aread fun H=>aslc H x l h):=fun s G H z H' hP I eq Q E hQ=>by
  obtain⟨x,H1,e1,eq⟩:=zJ eq
  obtain⟨y,H2,e2,eq⟩:=zJ eq
  obtain⟨w,H3,e3,eq⟩:=zJ eq
  obtain⟨e4,rfl⟩:=aread_some eq
  refine sub_slice (ha s G H x H1 hP I e1 _ _ fun v1 G1 h1 t1 s1 I1 P1 r1=>wpAny_Slice ?_)
  refine hl _ G1 H1 y _ P1 I1 e2 _ _ fun v2 G2 h2 t2 s2 I2 P2 r2=>?_
  refine hu _ G2 H2 w _ P2 I2 e3 _ _ fun v3 G3 h3 t3 s3 I3 P3 r3=>wpAny_pure ?_
  have s4:Step B Pure G3 h3 (G3.put h3.objs.size { cls := .type "slice",data := .fields #[v2,v3,.none] }) (h3.push { cls := .type "slice",data := .fields #[v2,v3,.none] }):=Step.alloc I3 _
  refine via fun R_ k_=>?_
  obtain⟨T',id,hT,hl,hy⟩:=op_slc (A:=A) (s:={ s with heap:=h3.push { cls := .type "slice",data := .fields #[v2,v3,.none] },toks:=t3 }) e4 (I3.alloc _ rfl) (Heap.IsSliceOf.new ..) (s4.rep (s3.rep (s2.rep r1))) (s4.rep (s3.rep r2)) (s4.rep r3)
  refine k_ ?_
  exact⟨T',id,hT,hl,hy.use (P3.step s4) (s1.trans (s2.trans (s3.trans s4))) fun v G' h' tk'=>hQ v G' h' tk'⟩
end
end
section
open PySem PySem.W PyProof.Rows PySem.Calls
noncomputable def St.add (G:St)(p:Addr×Option Addr):St:={ G with al:=G.al++[p] }
theorem adr_add (G:St)(p:Addr×Option Addr):(G.add p).adr=G.adr++ZB [p]:=adrOf_append _ _
theorem at_append {α:Type}{l:List α}{x y:α}{i:Nat}(e:(l++[x])[i]? = some y):l[i]? = some y∨(i=l.length∧y=x):=by
  rcases Nat.lt_trichotomy i l.length with h | h | h
  · rw[List.getElem?_append_left h] at e;exact .inl e
  · subst h;rw[List.getElem?_append_right (Nat.le_refl _),Nat.sub_self] at e;cases e;exact .inr ⟨rfl,rfl⟩
  · rw[List.getElem?_append_right (Nat.le_of_lt h)] at e
    have:i-l.length≠0:=Nat.sub_ne_zero_of_lt h
    cases q:i-l.length with
    | zero=>exact absurd q this
    | succ n=>rw[q] at e;simp at e
theorem Inv.addObj {B:Base}{G:St}{H:AH}{h:Heap}(I:Inv B G H h){p:Addr×Option Addr}{ao:AObj}(new:∀ a∈ZB [p],G.g a=none∧a ∉ G.adr∧a ∉ B.tabP∧∃ o,h.get? a=some o)
    (nd:(ZB [p]).Nodup) (ok:AObjOk B (G.add p) h p ao):Inv B (G.add p) (H++[ao]) h where
  sub:=I.sub
  old:=I.old
  tabs:=I.tabs
  tabG:=I.tabG
  len:=by
    show(G.al++[p]).length=_
    rw[List.length_append,List.length_append,I.len];rfl
  nod:=by
    rw[adr_add]
    refine List.nodup_append.mpr ⟨I.nod,nd,fun a ha b hb e=>?_⟩
    subst e
    exact(new a hb).2.1 ha
  off:=fun a ha=>by
    rw[adr_add] at ha
    rcases List.mem_append.mp ha with ha | ha
    · exact I.off a ha
    · exact⟨(new a ha).1,(new a ha).2.2⟩
  objs := fun i o q a b=>by
    rcases at_append a with a' | ⟨a1,a2⟩
    · have hi:i<G.al.length:=by rw[I.len];exact(List.getElem?_eq_some_iff.mp a').1
      have b':G.al[i]? = some q:=by
        have:(G.al++[p])[i]? = some q:=b
        rwa [List.getElem?_append_left hi] at this
      exact AObjOk.mono (G:=G) (G':=G.add p) (fun q_ q_ e=>e) (fun j r e=>by
        show(G.al++[p])[j]? = some r
        rw[List.getElem?_append_left (List.getElem?_eq_some_iff.mp e).1];exact e) (fun q_ e=>e) (fun q_ q_ q_ e=>e) (I.objs i o q a' b')
    · subst a2
      have b':(G.al++[p])[i]? = some q:=b
      rw[a1,←I.len,List.getElem?_append_right (Nat.le_refl _),Nat.sub_self] at b'
      cases b'
      exact ok
theorem Step.addObj {B:Base}{X:Addr→Prop}{G G':St}{h h':Heap}(st:Step B X G h G' h'){p:Addr×Option Addr}(new:∀ a∈ZB [p],h.get? a=none):Step B X G h (G'.add p) h' where
  live:=st.live
  mono:=st.mono
  ext:=st.ext
  al :=by
    obtain⟨l,e,k⟩:=st.al
    refine⟨l++[p],by show G'.al++[p]=_;rw[e,List.append_assoc],fun a ha n=>?_⟩
    rw[adrOf_append] at ha
    rcases List.mem_append.mp ha with ha | ha
    · exact k a ha n
    · exact new a ha
  keep:=st.keep
theorem new_lst {B:Base}{G:St}{H:AH}{h:Heap}{xs:List AV}{vs:Array Value}(I:Inv B G H h)(r:RepL B G xs vs.toList) :
    ∃ G',Step B Pure G h G' (h.push (lstO vs 0))∧Inv B G' (H++[.list xs]) (h.push (lstO vs 0))∧Rep B G' (.obj H.length) (.ref h.objs.size):=by
  have hk:∀ b o,h.get? b=some o→(h.push (lstO vs 0)).get? b=some o:=fun b o e=>Heap.get?_push_of_some _ e
  have s2:Step B Pure G h G (h.push (lstO vs 0)):=Step.priv hk
  have s3:=s2.addObj (p:=(h.objs.size,none)) (fun a ha=>by rw[show a=h.objs.size from List.mem_singleton.mp ha];exact Heap.get?_end _)
  refine⟨_,s3,(I.keeps fun b o q_ e=>hk b o e).addObj (fun a ha=>?_) (List.nodup_cons.mpr ⟨List.not_mem_nil,List.nodup_nil⟩) ⟨rfl,vs,0,Heap.get?_push_size _ rfl,s3.repL r⟩,(h.objs.size,none),?_,rfl⟩
  · rw[show a=h.objs.size from List.mem_singleton.mp ha]
    exact⟨I.gNew (Nat.le_refl _),fun m=>absurd (I.lt m) (Nat.lt_irrefl _),fun m=>absurd (I.tabLt m) (Nat.lt_irrefl _),_,Heap.get?_push_size _ rfl⟩
  · show(G.al++[_])[H.length]? = _
    rw[←I.len,List.getElem?_append_right (Nat.le_refl _),Nat.sub_self];rfl
section
variable {B:Base}{A:Around}{T:Tabs}{sc:Scope}{ns:List (List Nat)}{env:Env}{F:AF}
theorem ev_lst {mu:Bool}{p:Pos}{es:List Expr}{ms:AM (List AV)}(h:EvL B A T sc ns env F p es ms)(hl:∀ H xs H',ms H=some (xs,H')→xs.length≤1000) :
    EvE B A T sc ns env F (.List es p) (zZ ms fun xs=>amk mu xs):=fun s G H x H' hP I eq Q E hQ=>by
  obtain⟨xs,H1,e1,eq⟩:=zJ eq
  refine wpAny_List (h s G H xs _ hP I e1 _ _ fun vs G1 h1 t1 s1 I1 P1 r1=>⟨?_,?_⟩)
  · have:=hl _ _ _ e1
    rw[r1.len,sizeLine_eq]
    omega
  · cases mu with
    | false =>
      obtain⟨rfl,rfl⟩:=zF (y:=AV.lst xs) eq
      have s2:=Step.alloc I1 (lstO vs.toArray 0)
      exact hQ _ _ _ _ (s1.trans s2) (I1.alloc _ rfl) (P1.step s2) ⟨_,vs.toArray,0,rfl,St.put_at ..,s2.repL r1⟩
    | true =>
      cases (show anewL xs H1=some (x,H') from eq)
      obtain⟨G2,s2,I2,r2⟩:=new_lst (vs:=vs.toArray) I1 r1
      exact hQ _ _ _ _ (s1.trans s2) I2 (P1.step s2) r2
end
theorem fld_object (f:Fld):typeLookup (.type "object") f.name=pure none:=by
  cases f <;> (rw[typeLookup_type,builtinLookup_eq_fast];kernel_rfl)
noncomputable abbrev allFlds:List Fld:=[.kind,.text,.depth,.frames,.steps,.loops,.ic,.ml,.left,.waiting]
theorem mem_flds (f:Fld):f∈allFlds:=by cases f <;> decide
noncomputable def fldOf (x:Str):Option Fld:=allFlds.find? fun f=>decide (f.name=x)
theorem fldOf_name (f:Fld):fldOf f.name=some f:=by cases f <;> kernel_rfl
theorem fld_inj {f g:Fld}(h:f.name=g.name):f=g :=
  Option.some.inj ((fldOf_name f).symm.trans ((congrArg fldOf h).trans (fldOf_name g)))
structure ClassAt (B:Base)(c:Cls)(mN:Str→Option Value):Prop where
  obj:∃ cr:CR,B.h₀.get? (B.clA c)=some (cr.obj (B.clA c) [.type "object"] false "object.__new__")∧B.h₀.Ns cr.N mN∧cr.N ∉ B.tabP
  tab:B.clA c ∉ B.tabP
  gab:mN "__getattribute__" = none
  gat:mN "__getattr__" = none
  sat:mN "__setattr__" = none
  fld:∀ f:Fld,mN f.name=none
  ini:∀ k,B.Gl.ini c=some k→mN "__init__" = some (.ref (B.fnA k))∧∃ o,B.h₀.get? (B.fnA k)=some o∧B.fnA k ∉ B.tabP∧o.cls = .type "function"
  mth:∀ j k,B.Gl.mth c j=some k→∃ n y,B.T.mnames[j]? = some n∧mN (toS n)=some (.ref (B.fnA k))∧typeLookup (.type "object") (toS n)=pure y∧(∀ f:Fld,f.name≠toS n)∧∃ o,B.h₀.get? (B.fnA k)=some o∧B.fnA k ∉ B.tabP∧o.cls = .type "function"
noncomputable def ClassesOk (B:Base):Prop:=∀ c,c≠Cls.fail→∃ mN,ClassAt B c mN
section
variable {B:Base}{A:Around}{G:St}{H:AH}{s:Shared}
theorem rep_handed {x:AV}{v:Value}(r:Rep B G x v):handedOut v=pure v:=by
  cases x with
  | none=>rw[show v=_ from r];rfl
  | bool b=>rw[show v=_ from r];rfl
  | int i=>obtain⟨t,rfl⟩:=r;rfl
  | str i=>obtain⟨t,rfl⟩:=r;rfl
  | tup i=>obtain⟨a,_,_,rfl,_⟩:=r;rfl
  | lst i=>obtain⟨a,_,_,rfl,_⟩:=r;rfl
  | row i=>obtain⟨a,_,_,rfl,_⟩:=r;rfl
  | clo i c=>obtain⟨a,_,rfl,_⟩:=r;rfl
  | dct i=>obtain⟨a,_,_,rfl,_⟩:=r;rfl
  | obj i=>obtain⟨a,_,rfl⟩:=r;rfl
  | fn i=>rw[show v=_ from r];rfl
  | cls i=>rw[show v=_ from r];rfl
  | bi i=>rw[show v=_ from r];cases i <;> first | rfl | kernel_rfl
theorem inst_at {i:Nat}{c:Cls}{fs:Fld→Option AV}{p:Addr×Option Addr}(I:Inv B G H s.heap)(hH:H[i]? = some (.inst c fs))(hp:G.al[i]? = some p) :
    ∃ m,s.heap.Inst p.1 (B.clA c) m∧(∀ f,match fs f with | some av=>∃ v,m f.name=some v∧Rep B G av v | none=>m f.name=none)∧∀ y,m y≠none→∃ f,y=Fld.name f:=by
  refine via fun R_ k_=>?_
  obtain⟨d,m,e,g,n,f,y⟩:=I.objs _ _ _ hH hp
  refine k_ ?_
  refine⟨m,⟨_,g,rfl,fun c e=>(by cases e),.inr ⟨d,rfl,fun q=>?_,n⟩⟩,f,y⟩
  subst q
  refine via fun R_ k_=>?_
  obtain⟨o,es,ep,e1,e2,_⟩:=n
  refine k_ ?_
  rw[g] at e1;cases e1;cases e2
theorem alist_some {x:AV}{p:Nat×List AV}{H H':AH}(e:alist x H=some (p,H')):x = .obj p.1∧H[p.1]? = some (.list p.2)∧H'=H:=by
  refine via fun R_ k_=>?_
  obtain⟨n,hn,e⟩:=bind_some (o:=toObj x) e
  obtain⟨xs,hx,e⟩:=wA (o:=listAt H n) e
  refine k_ ?_
  cases e
  exact⟨toObj_some hn,listAt_some hx,rfl⟩
theorem instAt_some {H:AH}{n:Nat}{p:Cls×(Fld→Option AV)}(h:instAt H n=some p):H[n]? = some (.inst p.1 p.2)∧p.1 ≠ .fail:=by
  unfold instAt at h
  revert h
  cases H[n]? with
  | none=>exact fun h=>nos h
  | some o=>cases o with
    | list ys=>exact fun h=>nos h
    | inst c f =>
      intro h
      by_cases hc:c = .fail
      · exact nos ((if_pos hc).symm.trans h)
      · cases (if_neg hc).symm.trans h
        exact⟨rfl,hc⟩
theorem ainst_some {x:AV}{p:Nat×Cls×(Fld→Option AV)}{H H':AH}(e:ainst x H=some (p,H')):x = .obj p.1∧H[p.1]? = some (.inst p.2.1 p.2.2)∧p.2.1 ≠ .fail∧H'=H:=by
  refine via fun R_ k_=>?_
  obtain⟨n,hn,e⟩:=bind_some (o:=toObj x) e
  obtain⟨xs,hx,e⟩:=wA (o:=instAt H n) e
  refine k_ ?_
  cases e
  exact⟨toObj_some hn,(instAt_some hx).1,(instAt_some hx).2,rfl⟩
theorem op_attr (K:ClassesOk B){x z:AV}{v:Value}{f:Fld}{H':AH}{ex:Bool}(e:agetA x f H=some (z,H'))(I:Inv B G H s.heap)(rx:Rep B G x v):H'=H∧Yields B A (getAttr v f.name ex) G H H z s:=by
  refine via fun R_ k_=>?_
  obtain⟨⟨i,c,fs⟩,H1,e1,e0⟩:=zJ e
  refine k_ ?_
  clear e
  obtain⟨rfl,hH,hc,rfl⟩:=ainst_some e1
  obtain⟨e5,rfl⟩:=ZW e0
  refine⟨rfl,?_⟩
  obtain⟨p,hp,rfl⟩:=rx
  obtain⟨m,Im,hm,_⟩:=inst_at (c:=c) (fs:=fs) I hH hp
  have:=hm f
  rw[show fs f=some z from e5] at this
  refine via fun R_ k_=>?_
  obtain⟨w,hw,rw'⟩:=this
  obtain⟨mN,CA⟩:=K c hc
  obtain⟨cr,hC,hN,hNt⟩:=CA.obj
  obtain⟨hp,g,d,tk,os⟩:=s
  refine k_ ?_
  exact yields_val I rw' fun Q E hQ=>load_attr (I.sub _ _ (I.old _ _ hC CA.tab)) (I.ns hNt hN) CA.gab (CA.fld f) (fld_object f) Im hw (rep_handed rw') (hQ _)
end
end
section
open PySem PySem.W PyProof.Rows PySem.Calls
theorem adr_disj:∀ {l:List (Addr×Option Addr)}{i j:Nat}{p q:Addr×Option Addr},(ZB l).Nodup→l[i]? = some p→l[j]? = some q→i≠j→∀ a,a∈ZB [p]→a∈ZB [q]→False
  | [],_,_,_,_,_,h,_,_,_,_,_=>by cases h
  | r :: l,i,j,p,q,hn,hi,hj,hij,a,ap,aq=>by
    have e:ZB (r::l)=ZB [r]++ZB l:=by
      show _=(r.1::(r.2.toList++[]))++ZB l
      rw[List.append_nil];rfl
    have mem:∀ {k:Nat} {t:Addr×Option Addr},l[k]? = some t→a∈ZB [t]→a∈ZB l:=by
      intro k t hk ha
      have ha:a∈t.1::(t.2.toList++[]):=ha
      rw[List.append_nil] at ha
      rcases List.mem_cons.mp ha with rfl | ha
      · exact mem_adr1 hk
      · exact mem_adr2 hk (by simpa using ha)
    rw[e] at hn
    obtain⟨h1,h2,h3⟩:=List.nodup_append.mp hn
    cases i with
    | zero =>
      cases hi
      cases j with
      | zero=>exact hij rfl
      | succ j=>exact h3 a ap a (mem hj aq) rfl
    | succ i =>
      cases j with
      | zero=>cases hj;exact h3 a aq a (mem hi ap) rfl
      | succ j=>exact adr_disj h2 hi hj (fun e=>hij (by rw[e])) a ap aq
theorem adr_one {p:Addr×Option Addr}{a:Addr}:a∈ZB [p]↔a=p.1∨p.2=some a:=by
  show a∈p.1::(p.2.toList++[])↔_
  rw[List.append_nil,List.mem_cons]
  simp
section
variable {B:Base}{G:St}{H:AH}{h h':Heap}
theorem Inv.upd (I:Inv B G H h){i:Nat}{p:Addr×Option Addr}{ao ao':AObj}(hH:H[i]? = some ao)(hp:G.al[i]? = some p)(k:∀ b o,b ∉ ZB [p]→h.get? b=some o→h'.get? b=some o)
    (live:∀ a∈ZB [p],∃ o,h'.get? a=some o) (ok:AObjOk B G h' p ao'):Inv B G (H.set i ao') h' where
  sub :=fun b o e=>k b o (fun m=>by
    rw [(I.off b (by
      rcases adr_one.mp m with rfl | m
      · exact mem_adr1 hp
      · exact mem_adr2 hp m)).1] at e;cases e) (I.sub b o e)
  old:=I.old
  tabs :=fun q hq=>by
    obtain⟨ps,a,b,c⟩:=I.tabs q hq
    refine⟨ps,k _ _ (fun m=>?_) a,b,c⟩
    have hm:q.2∈G.adr:=by
      rcases adr_one.mp m with e | m
      · rw[e];exact mem_adr1 hp
      · exact mem_adr2 hp m
    exact(I.off _ hm).2.1 (List.mem_map_of_mem hq)
  tabG:=I.tabG
  len:=by rw[I.len,List.length_set]
  nod:=I.nod
  off:=fun a ha=>by
    obtain⟨e,t,o,q⟩:=I.off a ha
    refine⟨e,t,?_⟩
    by_cases m:a∈ZB [p]
    · exact live a m
    · exact⟨o,k a o m q⟩
  objs :=fun j o q a b=>by
    by_cases hij:i=j
    · subst hij
      rw[hp] at b;cases b
      have hlt:i<H.length:=(List.getElem?_eq_some_iff.mp hH).1
      rw[List.getElem?_set_self hlt] at a;cases a
      exact ok
    · rw[List.getElem?_set_ne hij] at a
      refine AObjOk.mono (fun q_ q_ e=>e) (fun q_ q_ e=>e) (fun o' e=>k _ _ (fun m=>?_) e) (fun d o' q' e=>k _ _ (fun m=>?_) e) (I.objs j o q a b)
      · exact adr_disj I.nod hp b hij _ m (adr_one.mpr (.inl rfl))
      · exact adr_disj I.nod hp b hij _ m (adr_one.mpr (.inr q'))
theorem Step.upd (I:Inv B G H h){i:Nat}{p:Addr×Option Addr}(hp:G.al[i]? = some p)(k:∀ b o,b ∉ ZB [p]→h.get? b=some o→h'.get? b=some o)
    (live:∀ a∈ZB [p],∃ o,h'.get? a=some o):Step B Pure G h G h' where
  live:=fun b o q_ e=>by
    by_cases m:b∈ZB [p]
    · exact live b m
    · exact⟨o,k b o m e⟩
  mono:=fun q_ q_ e=>e
  ext:=fun q_ q_ q_ q_=>rfl
  al:=⟨[],(List.append_nil _).symm,fun q_ hm=>nomatch hm⟩
  keep:=fun b o q_ hb q_ e=>k b o (fun m=>hb (by
    rcases adr_one.mp m with rfl | m
    · exact mem_adr1 hp
    · exact mem_adr2 hp m)) e
theorem mapSeq_lst (f:Array Value→Array Value)(vs:Array Value)(n:Nat):∃ n',Obj.mapSeq f (lstO vs n)=lstO (f vs) n':=⟨_,rfl⟩
theorem Inv.updList (I:Inv B G H h){i:Nat}{p:Addr×Option Addr}{xs ys:List AV}{vs:Array Value}{n:Nat}(f:Array Value→Array Value)(hH:H[i]? = some (.list xs))(hp:G.al[i]? = some p)(e2:p.2=none)
    (hg:h.get? p.1=some (lstO vs n)) (r:RepL B G ys (f vs).toList) :
    Inv B G (H.set i (.list ys)) (h.update p.1 (Obj.mapSeq f))∧Step B Pure G h G (h.update p.1 (Obj.mapSeq f)):=by
  obtain⟨n',q⟩:=mapSeq_lst f vs n
  have hs:(h.update p.1 (Obj.mapSeq f)).get? p.1=some (lstO (f vs) n'):=by
    rw[Heap.get?_update_self _ hg (by rw[q];rfl),q]
  have k:∀ b o,b ∉ ZB [p]→h.get? b=some o→(h.update p.1 (Obj.mapSeq f)).get? b=some o:=fun b o m e=>by
    have:=(Heap.SameBut.update (h:=h) (a:=p.1) (f:=Obj.mapSeq f)).2 b (fun q=>m (adr_one.mpr (.inl q)))
    rw[this];exact e
  have live:∀ a∈ZB [p],∃ o,(h.update p.1 (Obj.mapSeq f)).get? a=some o:=fun a m=>by
    rcases adr_one.mp m with rfl | m
    · exact⟨_,hs⟩
    · rw[e2] at m;cases m
  exact⟨I.upd hH hp k live ⟨e2,f vs,n',hs,r⟩,Step.upd I hp k live⟩
end
section
variable {B:Base}{A:Around}{G:St}{H H':AH}{s:Shared}
theorem setItem_plain {prog:Program}{w:World}{E:Value→Shared→Prop}{l:Addr}{vs:Array Value}{n:Nat}{k:Int}{t:Tok}{v:Value}{Q:Unit→Shared→Prop}(hl:s.heap.get? l=some (lstO vs n))
    (h0:0≤k) (hfit:k<2 ^ 63) (hn:k<vs.size) (hQ:Q () { s with heap:=s.heap.update l (Obj.mapSeq (·.setIfInBounds k.toNat v)) }) :
    wpAny (model prog w) A (setItem (.ref l) (.int k t) v) Q E s:=by
  have hT:s.TypeIs (.ref l) "list" :=⟨_,hl,rfl⟩
  unfold setItem
  try with_reducible refine wpAny_holding ?_
  first | refine wpAny_bind (wpAny_pure ?_) | skip
  refine wpAny_bind (wpAny_sequenceKey hT (by decide) ?_)
  refine wpAny_bind (wpAny_callSpecial?_slot (name:=Str.ofString "__setitem__") hT slot_list_setitem
    (wpAny_call_entry slot_list_setitem hT entry_list_setitem ?_ (args_list_setitem _ _ _)))
  show wpAny _ _ (Builtin.List.listSubscript? (.int k t) >>= _) _ _ s
  refine wpAny_bind (wpAny_listSubscript_int (fitsIndex_of h0 hfit) ?_)
  clear hfit
  obtain⟨j,rfl⟩:=Int.eq_ofNat_of_zero_le h0
  have hj:j<vs.size:=by omega
  have hx':vs[j]? = some vs[j]:=Array.getElem?_eq_getElem hj
  show wpAny _ _ ((seqItemAt l j >>= fun r=>pure (r.map (j,·))) >>= _) _ _ s
  refine wpAny_bind (wpAny_bind (wpAny_seqItemAt hl rfl (wpAny_pure ?_)))
  rw[hx']
  show wpAny _ _ (setSeqItemAt l j v >>= _) _ _ s
  refine wpAny_bind (wpAny_setSeqItemAt hl rfl ?_)
  first
    | exact wpAny_bind (wpAny_pure (wpAny_pure ⟨.none,rfl,wpAny_pure hQ⟩))
    | exact wpAny_pure ⟨.none,rfl,wpAny_pure hQ⟩
theorem repL_set {xs:List AV}{vs:List Value}(r:RepL B G xs vs){x:AV}{v:Value}(rx:Rep B G x v):∀ n,RepL B G (xs.set n x) (vs.set n v):=by
  induction xs generalizing vs with
  | nil=>intro n;rw[show vs=[] from r];exact rfl
  | cons y xs ih =>
    obtain⟨u,q,rfl,a,b⟩:=r
    intro n
    cases n with
    | zero=>exact⟨v,_,rfl,rx,b⟩
    | succ n=>exact⟨u,_,rfl,a,ih b n⟩
noncomputable def Does (B:Base)(A:Around)(t:Sem Unit)(G:St)(H':AH)(s:Shared):Prop :=
  ∀ (Q:Unit→Shared→Prop) (E:Value→Shared→Prop),(∀ G' h' tk',Step B Pure G s.heap G' h'→Inv B G' H' h'→Q () { s with heap:=h',toks:=tk' })→wpAny (model B.prog B.w) A t Q E s
theorem op_setItem {x k y:AV}{v w u:Value}(e:asetI x k y H=some ((),H'))(I:Inv B G H s.heap)(rx:Rep B G x v)(rk:Rep B G k w)(ry:Rep B G y u):Does B A (setItem v w u) G H' s:=by
  obtain⟨i,hi,e0⟩:=jB e
  clear e
  have hi:=wF hi
  subst hi
  refine via fun R_ k_=>?_
  obtain⟨⟨n,xs⟩,H1,e1,e2⟩:=zJ e0
  refine k_ ?_
  clear e0
  obtain⟨rfl,hH,rfl⟩:=alist_some e1
  obtain⟨hb,e3⟩:=ZZ e2
  clear e2
  cases e3
  obtain⟨t,rfl⟩:=rk
  obtain⟨p,hp,rfl⟩:=rx
  obtain⟨e2,vs,n',hg,ra⟩:=I.objs _ _ _ hH hp
  have hsz:=ZQ ra
  have hu:=I.updList (ys:=xs.set i.toNat y) (fun vs=>vs.setIfInBounds i.toNat u) hH hp e2 hg (by rw[Array.toList_setIfInBounds];exact repL_set ra ry _)
  intro Q E hQ
  exact setItem_plain hg hb.1 (by omega) (by rw[hsz];exact hb.2.1) (hQ G _ s.toks hu.2 hu.1)
theorem op_setAttr (K:ClassesOk B){x y:AV}{v u:Value}{f:Fld}(e:asetA x f y H=some ((),H'))(I:Inv B G H s.heap)(rx:Rep B G x v)(ry:Rep B G y u):Does B A (setAttr v f.name u) G H' s:=by
  refine via fun R_ k_=>?_
  obtain⟨⟨i,c,fs⟩,H1,e1,e0⟩:=zJ e
  refine k_ ?_
  clear e
  obtain⟨rfl,hH,hc,rfl⟩:=ainst_some e1
  cases e0
  refine via fun R_ k_=>?_
  obtain⟨p,hp,rfl⟩:=rx
  obtain⟨m,Im,hm,hin⟩:=inst_at I hH hp
  obtain⟨d,m',e2,hg,hns,_⟩:=I.objs _ _ _ hH hp
  obtain⟨mN,CA⟩:=K c hc
  obtain⟨cr,hC,hN,hNt⟩:=CA.obj
  refine k_ ?_
  have hC':=I.sub _ _ (I.old _ _ hC CA.tab)
  have hN':=I.ns hNt hN
  have hxC:p.1≠B.clA c:=fun q=>by rw[q,hC'] at hg;cases hg
  have hin':Within m (allFlds.map Fld.name):=fun z hz=>(hin z hz).elim fun f e=>e▸List.mem_map_of_mem (mem_flds f)
  refine via fun R_ k_=>?_
  obtain⟨hp',g,dw,tk,os⟩:=s
  refine k_ ?_
  intro Q E hQ
  refine store_attr F.store_object hC' hN' CA.sat (CA.fld f) (fld_object f) hxC Im (fun h' tk' I' keep obj=>?_) hin' (by decide)
  obtain⟨o1,g1,c1,c2,c3,c4⟩:=obj _ hg
  have c5:=c4 d rfl
  have ho1:o1=insO (B.clA c) d:=by
    clear c4
    cases o1
    cases c1;cases c2;cases c3;cases c5;rfl
  subst ho1
  have hns':h'.Ns1 d (fun z=>if z=f.name then some u else m z):=by
    refine via fun R_ k_=>?_
    obtain⟨o,a,_,_,r⟩:=I'
    refine k_ ?_
    rw[g1] at a;cases a
    rcases r with⟨r,_⟩ | ⟨d',r,_,n⟩
    · cases r
    · cases r;exact n
  have k:∀ b o,b ∉ ZB [p]→hp'.get? b=some o→h'.get? b=some o:=fun b o hb e=>keep b o (fun q=>hb (adr_one.mpr (.inl q))) (fun o0 dx a a' q=>hb (adr_one.mpr (.inr (by rw[hg] at a;cases a;cases a';rw[q];exact e2)))) e
  have live:∀ a∈ZB [p],∃ o,h'.get? a=some o:=fun a ha=>by
    rcases adr_one.mp ha with rfl | ha
    · exact⟨_,g1⟩
    · rw[e2] at ha;cases ha
      refine via fun R_ k_=>?_
      obtain⟨o,_,_,a,_⟩:=hns'
      refine k_ ?_
      exact⟨o,a⟩
  refine hQ G h' tk' (Step.upd I hp k live) (I.upd hH hp k live ⟨d,_,e2,g1,hns',fun f'=>?_,fun z hz=>?_⟩)
  · show match (if f'=f then some y else fs f') with
      | some av=>∃ v,(if f'.name=f.name then some u else m f'.name)=some v∧Rep B G av v
      | none=>(if f'.name=f.name then some u else m f'.name)=none
    by_cases hf:f'=f
    · subst hf
      rw[if_pos rfl,if_pos rfl]
      exact⟨u,rfl,ry⟩
    · rw[if_neg hf,if_neg (fun q=>hf (fld_inj q))]
      exact hm f'
  · by_cases hz':z=f.name
    · exact⟨f,hz'⟩
    · simp only[hz',if_false] at hz
      exact hin z hz
end
end
section
open PySem PySem.W PyProof.Rows PySem.Calls
noncomputable def Me.ty:Me→String
  | .append => "list"
  | .pop => "list"
  | .extend => "list"
  | .upper => "str"
  | .isalnum => "str"
  | .join => "str"
noncomputable def Me.id:Me→String
  | .append => "list.append"
  | .pop => "list.pop"
  | .extend => "list.extend"
  | .upper => "str.upper"
  | .isalnum => "str.isalnum"
  | .join => "str.join"
theorem me_slot (m:Me):PlainAttrs m.ty∧Slot m.ty m.name m.id∧typeOf (.builtin m.id)=pure (.type "method_descriptor"):=by
  cases m
  · exact⟨F.plainAttrs_list,F.slot_list_append,F.type_list_append⟩
  · exact⟨F.plainAttrs_list,F.slot_list_pop,F.type_list_pop⟩
  · exact⟨F.plainAttrs_list,F.slot_list_extend,F.type_list_extend⟩
  · exact⟨F.plainAttrs_str,F.slot_str_upper,F.type_str_upper⟩
  · exact⟨F.plainAttrs_str,F.slot_str_isalnum,F.type_str_isalnum⟩
  · exact⟨F.plainAttrs_str,F.slot_str_join,F.type_str_join⟩
section
variable {B:Base}{A:Around}{G:St}{H H':AH}{s:Shared}
theorem op_mty {m:Me}{x:AV}{v:Value}(e:amty m x H=some ((),H'))(I:Inv B G H s.heap)(rx:Rep B G x v) :
    H'=H∧s.TypeIs v m.ty∧∀ a,v = .ref a→∃ ob,s.heap.get? a=some ob∧ob.dict=none:=by
  have lst:zZ (alist x) (fun q_=>zH ()) H=some ((),H')→H'=H∧s.TypeIs v "list" ∧ ∀ a,v = .ref a→∃ ob,s.heap.get? a=some ob∧ob.dict=none:=by
    intro e
    refine via fun R_ k_=>?_
    obtain⟨⟨n,xs⟩,H1,e1,e0⟩:=zJ e
    refine k_ ?_
    clear e
    obtain⟨rfl,hH,rfl⟩:=alist_some e1
    cases e0
    obtain⟨p,hp,rfl⟩:=rx
    obtain⟨e2,vs,n',hg,ra⟩:=I.objs _ _ _ hH hp
    exact⟨rfl,⟨_,hg,rfl⟩,fun a ea=>by cases ea;exact⟨_,hg,rfl⟩⟩
  have str:zZ (jW (toStr x)) (fun q_=>zH ()) H=some ((),H')→H'=H∧s.TypeIs v "str" ∧ ∀ a,v = .ref a→∃ ob,s.heap.get? a=some ob∧ob.dict=none:=by
    intro e
    obtain⟨cs,e1,e0⟩:=jB e
    clear e
    have e1:=toStr_some e1
    subst e1
    cases e0
    obtain⟨t,rfl⟩:=rx;exact⟨rfl,typeIs_str s _ t,fun a ea=>by cases ea⟩
  cases m with
  | append=>exact lst e
  | pop=>exact lst e
  | extend=>exact lst e
  | upper=>exact str e
  | isalnum=>exact str e
  | join=>exact str e
theorem yields_obj {t:Sem Value}{z:AV}{v:Value}{h':Heap}(st:Step B Pure G s.heap G h')(I:Inv B G H' h')(r:Rep B G z v)
    (h:∀ (Q:Value→Shared→Prop) (E:Value→Shared→Prop),(∀ tk,Q v { s with heap:=h',toks:=tk })→wpAny (model B.prog B.w) A t Q E s):Yields B A t G H H' z s:=fun Q E hQ =>
  h Q E fun tk=>hQ v G h' tk st I r
theorem repL_one {x:AV}{vs:List Value}(r:RepL B G [x] vs):∃ v,vs=[v]∧Rep B G x v:=by
  obtain⟨v,q,rfl,a,b⟩:=r
  rw[show q=[] from b]
  exact⟨v,rfl,a⟩
theorem repL_two {x y:AV}{vs:List Value}(r:RepL B G [x,y] vs):∃ v w,vs=[v,w]∧Rep B G x v∧Rep B G y w:=by
  obtain⟨v,q,rfl,a,b⟩:=r
  obtain⟨w,rfl,c⟩:=repL_one b
  exact⟨v,w,rfl,a,c⟩
theorem placed_one (f:Nat→Nat→List Nat)(c:Nat):placed (toS [c]) f=(f 0 c).toArray:=by
  unfold placed toS
  simp
theorem placed_nil (f:Nat→Nat→List Nat):placed (toS []) f = #[]:=by
  unfold placed toS
  simp
theorem foldl_flat (g:Str)(hg:g.cps = #[]):∀ (l:List (List Nat))(acc:Array Nat),(List.foldl (fun acc (p:Str)=>acc++g.cps++p.cps) acc (l.map toS)).toList=acc.toList++l.flatten
  | [],acc=>by simp
  | x::l,acc=>by
    rw[List.map_cons,List.foldl_cons,foldl_flat g hg l]
    rw[hg]
    simp[toS]
theorem join_flat (l:List (List Nat)):Txt.join (toS []) (l.map toS)=toS l.flatten:=by
  show Builtin.Str.glued (toS []) (l.map toS)=_
  unfold Builtin.Str.glued
  show(⟨_⟩:Str)=⟨_⟩
  congr 1
  apply Array.toList_inj.mp
  cases l with
  | nil=>rfl
  | cons x l =>
    rw[List.map_cons,List.drop_succ_cons,List.drop_zero]
    show(List.foldl (fun acc (p:Str)=>acc++(toS []).cps++p.cps) (toS x).cps (List.map toS l)).toList=_
    rw[foldl_flat (toS []) rfl]
    simp[toS]
theorem sum_map_len (l:List (List Nat)):((l.map toS).map (·.length)).sum=l.flatten.length:=by
  rw[List.length_flatten,List.map_map]
  congr 1
theorem alnum_ascii:∀ c,c<128→Unicode.isAlnum c=alnum c:=by decide +kernel
theorem me_append {x y:AV}{xs:List AV}{v u:Value}{n:Nat}(hH:H[n]? = some (.list xs))(hz:xs.length<1048576)(I:Inv B G H s.heap)(rx:Rep B G (.obj n) v)(ry:Rep B G y u) :
    Yields B A (call (.builtin "list.append") [v,u]) G H (setObj H n (.list (xs++[y]))) .none s:=by
  obtain⟨p,hp,rfl⟩:=rx
  obtain⟨e2,vs,n',hg,ra⟩:=I.objs _ _ _ hH hp
  have hsz:=ZQ ra
  have hu:=I.updList (ys:=xs++[y]) (fun vs=>vs.push u) hH hp e2 hg (by rw[Array.toList_push];exact repL_append ra ⟨u,[],rfl,ry,rfl⟩)
  exact yields_obj hu.2 hu.1 rfl fun Q E hQ=>call_meets F.slot_list_append ⟨_,hg,rfl⟩ F.entry_list_append (F.args_list_append_2 _ _)
    (AutoListH.list_append_list_val_0 p.1 vs n' u (by rw[hsz,sizeLine_eq];omega)) ⟨hg,hQ s.toks⟩
theorem me_pop {y:AV}{xs:List AV}{v:Value}{n:Nat}(hH:H[n]? = some (.list xs))(hy:xs.getLast? = some y)(hz:xs.length≤1048576)(I:Inv B G H s.heap)(rx:Rep B G (.obj n) v) :
    Yields B A (call (.builtin "list.pop") [v]) G H (setObj H n (.list xs.dropLast)) y s:=by
  obtain⟨p,hp,rfl⟩:=rx
  obtain⟨e2,vs,n',hg,ra⟩:=I.objs _ _ _ hH hp
  have hsz:=ZQ ra
  have hz':=hz
  rw[List.getLast?_eq_getElem?] at hy
  obtain⟨u,hu,ry⟩:=repL_get ra _ _ hy
  rw[Array.getElem?_toList,←hsz] at hu
  have hpos:0<xs.length:=by
    cases xs with
    | nil=>simp at hy
    | cons a r=>simp
  have hv:((vs.eraseIdxIfInBounds (vs.size-1)).toList)=vs.toList.dropLast:=by
    rw[Array.eraseIdxIfInBounds,dif_pos (by omega),Array.toList_eraseIdx,List.dropLast_eq_take,List.eraseIdx_eq_take_drop_succ,Array.length_toList,List.drop_of_length_le (by rw[Array.length_toList];omega),List.append_nil]
  have hd:RepL B G xs.dropLast vs.toList.dropLast:=by
    rw[List.dropLast_eq_take,List.dropLast_eq_take,ra.len]
    exact repL_take ra _
  have hu':=I.updList (ys:=xs.dropLast) (fun xs=>xs.eraseIdxIfInBounds (vs.size-1)) hH hp e2 hg (by rw[hv];exact hd)
  exact yields_obj hu'.2 hu'.1 ry fun Q E hQ=>call_meets F.slot_list_pop ⟨_,hg,rfl⟩ F.entry_list_pop (F.args_list_pop_1 _)
    (MeetsSeq.list_pop_last p.1 vs n' u hu (by rw[hsz,sizeLine_eq];omega)) ⟨hg,hQ s.toks⟩
theorem me_extend {ys:List AV}{xs:List AV}{v u:Value}{n:Nat}(hH:H[n]? = some (.list xs))(hz':xs.length+ys.length<1048576)(I:Inv B G H s.heap)(rx:Rep B G (.obj n) v)(ry:Rep B G (.tup ys) u) :
    Yields B A (call (.builtin "list.extend") [v,u]) G H (setObj H n (.list (xs++ys))) .none s:=by
  obtain⟨p,hp,rfl⟩:=rx
  obtain⟨e2,vs,n',hg,ra⟩:=I.objs _ _ _ hH hp
  obtain⟨b,ws,k,rfl,gb,rb⟩:=ry
  have hsz:=ZQ ra
  have hsz2:=ZQ rb
  have hu:=I.updList (ys:=xs++ys) (fun vs=>vs++ws) hH hp e2 hg (by rw[Array.toList_append];exact repL_append ra rb)
  refine yields_obj hu.2 hu.1 rfl fun Q E hQ=>call_meets F.slot_list_extend ⟨_,hg,rfl⟩ F.entry_list_extend (F.args_list_extend_2 _ _)
    (AutoSeq1.list_extend_list_tuple_0 p.1 vs n' b ws k ?_ (by rw[hsz,sizeLine_eq];omega) (by rw[hsz,hsz2,sizeLine_eq];omega)) ⟨hg,I.sub _ _ gb,hQ s.toks⟩
  simp[Builtin.List.listTooLong,sizeLine];omega
theorem me_upper {cs:List Nat}{v:Value}(hz:(cs.all (· < 128)&&decide (cs.length≤1))=true)(I:Inv B G H s.heap)(rx:Rep B G (.str cs) v) :
    Yields B A (call (.builtin "str.upper") [v]) G H H (.str (cs.map upperOf)) s:=by
  obtain⟨t,rfl⟩:=rx
  simp only[Bool.and_eq_true,List.all_eq_true,decide_eq_true_eq] at hz
  have q:placed (toS cs) (fun q_ c=>Unicode.upperOf c)=(toS (cs.map upperOf)).cps:=by
    match cs,hz with
    | [],_=>rw[placed_nil];rfl
    | [c],hz =>
      rw[placed_one,PyProof.Rows.upperOf_ascii c (hz.1 c (by simp))]
      show #[PyProof.Rows.up1 c] = #[upperOf c]
      congr 2
      unfold PyProof.Rows.up1 upperOf
      simp
    | _::_::_,hz=>simp at hz
  have hl:(placed (toS cs) (fun q_ c=>Unicode.upperOf c)).size≤1:=by
    rw[q]
    have:=ZF (cs.map upperOf)
    rw[List.length_map] at this
    show(toS (cs.map upperOf)).length≤1
    omega
  refine yields_str I fun Q E hQ=>call_gives F.slot_str_upper (typeIs_str s _ t) F.entry_str_upper (F.args_str_upper_1 _) (gives_str_upper (toS cs) t (decide_eq_false (by rw[sizeLine_eq];omega))) ?_
  rw[q]
  exact ⟨by
    show(toS (cs.map upperOf)).length≤sizeLine
    rw[ZF,List.length_map,sizeLine_eq];omega,hQ _ _⟩
theorem me_isalnum {c:Nat}{v:Value}(hz:c<128)(I:Inv B G H s.heap)(rx:Rep B G (.str [c]) v) :
    Yields B A (call (.builtin "str.isalnum") [v]) G H H (.bool (alnum c)) s:=by
  obtain⟨t,rfl⟩:=rx
  have q:(decide ((toS [c]).length > 0)&&(toS [c]).cps.all Unicode.isAlnum)=alnum c:=by
    have h1:(toS [c]).cps.all Unicode.isAlnum=Unicode.isAlnum c:=by simp[toS]
    rw[h1,alnum_ascii c hz,ZF]
    simp
  refine wZ I fun Q E hQ=>call_gives F.slot_str_isalnum (typeIs_str s _ t) F.entry_str_isalnum (F.args_str_isalnum_1 _) (gives_str_isalnum (toS [c]) t) ?_
  rw[q]
  exact hQ _
theorem me_join {xs:List AV}{l:List (List Nat)}{v u:Value}(el:strs? xs=some l)(hz':l.flatten.length≤1048576)(I:Inv B G H s.heap)(rx:Rep B G (.str []) v)(ry:Rep B G (.lst xs) u) :
    Yields B A (call (.builtin "str.join") [v,u]) G H H (.str l.flatten) s:=by
  obtain⟨t,rfl⟩:=rx
  obtain⟨a,ws,rfl,ha,ra⟩:=isLst I ry
  refine yields_str I fun Q E hQ=>PyProof.Rows.join_list ha (strsAre el ra) (by rw[sum_map_len,ZF];show l.flatten.length+_ * 0≤_;omega) fun t' k=>?_
  rw[join_flat]
  exact hQ _ _
theorem ordA_some {cs:List Nat}{c:Nat}(h:ordA cs=some c):cs=[c]:=by
  match cs,h with
  | [_],h=>cases h;rfl
  | [],h=>exact nos h
  | _::_::_,h=>exact nos h
theorem op_meth {m:Me}{x z:AV}{xs:List AV}{v:Value}{vs:List Value}(e:ame m x xs H=some (z,H'))(I:Inv B G H s.heap)(rx:Rep B G x v)(rs:RepL B G xs vs) :
    Yields B A (call (.builtin m.id) (v::vs)) G H H' z s:=by
  cases m with
  | append =>
    unfold ame at e
    obtain⟨y,h1,e1⟩:=jB e
    clear e
    have h1:=one_some h1
    subst h1
    refine via fun R_ k_=>?_
    obtain⟨⟨n,xs⟩,H1,e2,e3⟩:=zJ e1
    refine k_ ?_
    clear e1
    obtain⟨rfl,hH,rfl⟩:=alist_some e2
    obtain⟨hz,e4⟩:=ZZ e3
    clear e3
    cases e4
    obtain⟨u,rfl,ry⟩:=repL_one rs
    exact me_append (x:=y) hH hz I rx ry
  | pop =>
    unfold ame at e
    obtain⟨h1,e1⟩:=ZZ e
    clear e
    subst h1
    refine via fun R_ k_=>?_
    obtain⟨⟨n,xs⟩,H1,e2,e3⟩:=zJ e1
    refine k_ ?_
    clear e1
    obtain⟨rfl,hH,rfl⟩:=alist_some e2
    obtain⟨y,hy,e4⟩:=jB e3
    clear e3
    obtain⟨hz,e5⟩:=ZZ e4
    clear e4
    cases e5
    rw[show vs=[] from rs]
    exact me_pop hH hy hz I rx
  | extend =>
    unfold ame at e
    obtain⟨y,h1,e1⟩:=jB e
    clear e
    have h1:=one_some h1
    subst h1
    obtain⟨ys,h2,e2⟩:=jB e1
    clear e1
    have h2:=toTup_some h2
    subst h2
    refine via fun R_ k_=>?_
    obtain⟨⟨n,xs⟩,H1,e3,e4⟩:=zJ e2
    refine k_ ?_
    clear e2
    obtain⟨rfl,hH,rfl⟩:=alist_some e3
    obtain⟨hz,e5⟩:=ZZ e4
    clear e4
    cases e5
    obtain⟨u,rfl,ry⟩:=repL_one rs
    exact me_extend hH hz I rx ry
  | upper =>
    unfold ame at e
    obtain⟨h1,e1⟩:=ZZ e
    clear e
    subst h1
    obtain⟨cs,h2,e2⟩:=jB e1
    clear e1
    have h2:=toStr_some h2
    subst h2
    obtain⟨hz,e3⟩:=ZZ e2
    clear e2
    obtain⟨rfl,rfl⟩:=zF e3
    rw[show vs=[] from rs]
    exact me_upper hz I rx
  | isalnum =>
    unfold ame at e
    obtain⟨h1,e1⟩:=ZZ e
    clear e
    subst h1
    obtain⟨cs,h2,e2⟩:=jB e1
    clear e1
    have h2:=toStr_some h2
    subst h2
    obtain⟨c,h3,e3⟩:=jB e2
    clear e2
    have h3:=ordA_some h3
    subst h3
    obtain⟨hz,e4⟩:=ZZ e3
    clear e3
    obtain⟨rfl,rfl⟩:=zF e4
    rw[show vs=[] from rs]
    exact me_isalnum hz I rx
  | join =>
    unfold ame at e
    obtain⟨h1,e1⟩:=ZZ e
    clear e
    have h1:=toStr_some h1
    subst h1
    obtain⟨y,h2,e2⟩:=jB e1
    clear e1
    have h2:=one_some h2
    subst h2
    obtain⟨l,h3,e3⟩:=jB e2
    clear e2
    have h3:=toLst_some h3
    subst h3
    obtain⟨ls,el,e4⟩:=jB e3
    clear e3
    obtain⟨hz,e5⟩:=ZZ e4
    clear e4
    obtain⟨rfl,rfl⟩:=zF e5
    obtain⟨u,rfl,ry⟩:=repL_one rs
    exact me_join el hz I rx ry
end
end
section
open PySem PySem.W PyProof.Rows PySem.Calls
section
variable {B:Base}{G:St}{H:AH}{h h':Heap}
theorem Inv.fresh (I:Inv B G H h){a:Addr}{o:Obj}(k:∀ b o,h.get? b=some o→h'.get? b=some o)(n:h.get? a=none)(e:h'.get? a=some o):Inv B (G.put a o) H h':=by
  refine(I.keeps fun b o q_ e=>k b o e).freeze e (fun m=>?_) (fun m=>?_) fun o' q=>?_
  · obtain⟨_,_,o,q⟩:=I.off a m
    rw[n] at q;cases q
  · obtain⟨q,hq,rfl⟩:=List.mem_map.mp m
    obtain⟨ps,q,_⟩:=I.tabs q hq
    rw[n] at q;cases q
  · have:=I.sub _ _ q
    rw[n] at this;cases this
set_option tactic.hygienic true in
theorem Step.fresh (I:Inv B G H h){a:Addr}{o:Obj}(k:∀ b o,h.get? b=some o→h'.get? b=some o)(n:h.get? a=none):Step B Pure G h (G.put a o) h' where
  live:=fun b o q_ e=>⟨o,k b o e⟩
  mono :=fun b o' e=>by
    simp only[St.put]
    split
    · rename_i q;subst q
      have:=I.sub _ _ e
      rw[n] at this;cases this
    · exact e
  ext:=fun b o' hb q_=>by
    simp only[St.put]
    rw[if_neg (fun q=>by rw[q,n] at hb;cases hb)]
  al:=⟨[],(List.append_nil _).symm,fun q_ hm=>nomatch hm⟩
  keep:=fun b o' q_ q_ q_ e=>k b o' e
end
section
variable {B:Base}{A:Around}{G:St}{H H':AH}{s:Shared}
theorem boolsAre:∀ {xs:List AV}{l:List Bool}{vs:List Value},bools? xs=some l→RepL B G xs vs→vs=l.map Value.bool
  | [],l,vs,e,r=>by cases e;exact r
  | x :: xs,l,vs,e,r=>by
    obtain⟨v,q,rfl,a,b⟩:=r
    cases x with
    | bool i =>
      obtain⟨k,e1,rfl⟩:=wA (o:=bools? xs) e
      rw[show v=_ from a,boolsAre e1 b];rfl
    | _=>cases e
theorem range_any (l:List Bool):((List.range l.length).any fun i=>l.getD i false)=l.any id:=by
  rw[Bool.eq_iff_iff,List.any_eq_true,List.any_eq_true]
  constructor
  · rintro⟨i,hi,h⟩
    rw[List.mem_range] at hi
    refine⟨l.getD i false,?_,h⟩
    rw[List.getD_eq_getElem?_getD,List.getElem?_eq_getElem hi]
    exact List.getElem_mem hi
  · rintro⟨b,hb,h⟩
    obtain⟨i,hi,rfl⟩:=List.mem_iff_getElem.mp hb
    refine⟨i,List.mem_range.mpr hi,?_⟩
    rw[List.getD_eq_getElem?_getD,List.getElem?_eq_getElem hi]
    exact h
theorem bi_len {x:AV}{n:Nat}{v:Value}(e:lenA H x=some n)(hz:n≤1048576)(I:Inv B G H s.heap)(r:Rep B G x v):Yields B A (call Bi.len.val [v]) G H H (.int n) s:=by
  cases x with
  | tup xs =>
    cases e
    obtain⟨a,ws,rfl,ha,ra⟩:=isTup I r
    have:=ZQ ra
    exact ZA I fun Q E hQ=>PyProof.Rows.len_tuple ha (by omega) (by rw[this];exact hQ _ _)
  | lst xs =>
    cases e
    obtain⟨a,ws,rfl,ha,ra⟩:=isLst I r
    have:=ZQ ra
    exact ZA I fun Q E hQ=>PyProof.Rows.len_list ha (by omega) (by rw[this];exact hQ _ _)
  | str cs =>
    cases e
    obtain⟨t,rfl⟩:=r
    have:=ZF cs
    exact ZA I fun Q E hQ=>PyProof.Rows.len_str (by omega) (by rw[this];exact hQ _ _)
  | obj k =>
    obtain⟨xs,hH,rfl⟩:=wA (o:=listAt H k) e
    obtain⟨p,hp,rfl⟩:=r
    obtain⟨e2,ws,n',hg,ra⟩:=I.objs _ _ _ (listAt_some hH) hp
    have:=ZQ ra
    exact ZA I fun Q E hQ=>PyProof.Rows.len_list ⟨_,hg,rfl,n',rfl⟩ (by omega) (by rw[this];exact hQ _ _)
  | _=>exact nos e
theorem bi_int {x:AV}{i:Int}{v:Value}(e:intA x=some i)(I:Inv B G H s.heap)(r:Rep B G x v):Yields B A (call Bi.int.val [v]) G H H (.int i) s:=by
  cases x with
  | int i =>
    cases e
    obtain⟨t,rfl⟩:=r
    exact ZA I fun Q E hQ=>call_int_int (hQ _ _)
  | bool b =>
    cases e
    rw[show v=_ from r]
    exact ZA I fun Q E hQ=>call_int_bool (hQ _ _)
  | _=>exact nos e
theorem bi_any {xs:List AV}{l:List Bool}{v:Value}(e':bools? xs=some l)(hA:A.handled=none)(I:Inv B G H s.heap)(r:Rep B G (.lst xs) v):Yields B A (call Bi.any.val [v]) G H H (.bool (l.any id)) s:=by
  obtain⟨a,ws,rfl,ha,ra⟩:=isLst I r
  have hw:=boolsAre e' ra
  have hsz:ws.size=l.length:=by rw[←Array.length_toList,hw,List.length_map]
  intro Q E hQ
  have hne:a≠s.heap.objs.size:=fun q=>by
    obtain⟨o,ho,_⟩:=ha
    rw[q] at ho
    exact absurd (Heap.lt_size ho) (Nat.lt_irrefl _)
  have W:=Walks.list (prog:=B.prog) (w:=B.w) (A:=A.in1) hA s.heap.objs.size a hne ws
  refine call_any_walk (wpAny_pyIter_list ha ⟨_,_,_,_,_,_,fun i=>l.getD i false,rfl,W,⟨?_,?_⟩,?_,?_⟩)
  · exact⟨_,Heap.get?_push_size _ rfl,rfl,rfl⟩
  · obtain⟨o,ho,r⟩:=ha
    exact⟨o,Heap.get?_push_of_some _ ho,r⟩
  · intro i v s' Q' E' hi hq
    rw[←Array.getElem?_toList,hw,List.getElem?_map] at hi
    cases hl:l[i]? with
    | none=>rw[hl] at hi;cases hi
    | some b =>
      rw[hl] at hi;cases hi
      have:l.getD i false=b:=by rw[List.getD_eq_getElem?_getD,hl];rfl
      exact wpAny_truthy_bool (by rw[←this];exact hq)
  · intro h' tk k
    rw[hsz,range_any]
    have k':∀ b o,s.heap.get? b=some o→h'.get? b=some o:=fun b o e=>k b o (fun q=>by
      rw[List.mem_singleton] at q
      rw[q] at e
      exact absurd (Heap.lt_size e) (Nat.lt_irrefl _)) (Heap.get?_push_of_some _ e)
    exact hQ _ _ _ _ (Step.priv k') (I.keeps fun b o q_ e=>k' b o e) rfl
theorem isTupleTy_some {x:AV}(h:isTupleTy x=true):x = .bi .tuple:=by
  cases x with
  | bi b=>cases b with
    | tuple=>rfl
    | _=>exact bad h
  | _=>exact bad h
theorem bi_isi {x:AV}{b:Bool}{v:Value}(e:isTupA x=some b)(I:Inv B G H s.heap)(r:Rep B G x v):Yields B A (call Bi.isinstance.val [v,Bi.tuple.val]) G H H (.bool b) s:=by
  cases x with
  | tup xs =>
    cases e
    obtain⟨a,ws,n,rfl,g,_⟩:=r
    exact wZ I fun Q E hQ=>IsiPair.tuple_tuple (I.sub _ _ g) rfl (hQ _)
  | none =>
    cases e
    rw[show v=_ from r]
    exact wZ I fun Q E hQ=>IsiPair.NoneType_tuple (hQ _)
  | bool b =>
    cases e
    rw[show v=_ from r]
    exact wZ I fun Q E hQ=>IsiPair.bool_tuple (hQ _)
  | int i =>
    cases e
    obtain⟨t,rfl⟩:=r
    exact wZ I fun Q E hQ=>IsiPair.int_tuple (hQ _)
  | str cs =>
    cases e
    obtain⟨t,rfl⟩:=r
    exact wZ I fun Q E hQ=>IsiPair.str_tuple (hQ _)
  | _=>exact nos e
theorem bi_list {xs:List AV}{v:Value}(hz:xs.length≤1048576)(I:Inv B G H s.heap)(r:Rep B G (.tup xs) v):Yields B A (call Bi.list.val [v]) G H H (.lst xs) s:=by
  obtain⟨a,ws,n,rfl,g,ra⟩:=r
  have hsz:=ZQ ra
  intro Q E hQ
  refine call_list_seq a (.inr rfl) (I.sub _ _ g) rfl rfl (fun h' c' k hg=>?_) (by rw[hsz,sizeLine_eq];omega)
  have st:=Step.fresh (h':=h') I (a:=s.heap.objs.size) (o:=lstO ws c') k (Heap.get?_end _)
  exact hQ _ _ _ s.toks st (I.fresh k (Heap.get?_end _) hg) ⟨_,ws,c',rfl,St.put_at ..,st.repL ra⟩
theorem bi_tuple {xs:List AV}{v:Value}(hz:xs.length≤1048576)(I:Inv B G H s.heap)(r:Rep B G (.lst xs) v):Yields B A (call Bi.tuple.val [v]) G H H (.tup xs) s:=by
  obtain⟨a,ws,rfl,ha,ra⟩:=isLst I r
  have hsz:=ZQ ra
  intro Q E hQ
  refine call_tuple_list ha (fun h' k=>?_) (by rw[hsz,sizeLine_eq];omega)
  have I':Inv B G H h':=I.keeps fun b o q_ e=>k b o e
  have st:=(Step.priv (B:=B) (G:=G) k).trans (Step.alloc I' (tplO ws 0))
  exact hQ _ _ _ s.toks st (I'.alloc _ rfl) ⟨_,ws,0,rfl,St.put_at ..,st.repL ra⟩
set_option tactic.hygienic true in
theorem op_bi {b:Bi}{xs:List AV}{z:AV}{vs:List Value}(e:abi H b xs=some z)(hA:A.handled=none)(I:Inv B G H s.heap)(rs:RepL B G xs vs):Yields B A (call b.val vs) G H H z s:=by
  have one1:∀ {f:AV→Option AV},(one xs).bind f=some z→∃ x v,vs=[v]∧Rep B G x v∧f x=some z:=fun {f} e=>by
    obtain⟨x,h1,e1⟩:=bind_some e
    have h1:=one_some h1
    subst h1
    obtain⟨v,rfl,r⟩:=repL_one rs
    exact⟨x,v,rfl,r,e1⟩
  cases b with
  | len =>
    obtain⟨x,v,rfl,r,e1⟩:=one1 e
    obtain⟨n,h2,e2⟩:=bind_some e1
    obtain⟨hz,rfl⟩:=wJ e2
    exact bi_len h2 hz I r
  | abs =>
    obtain⟨x,v,rfl,r,e1⟩:=one1 e
    obtain⟨i,h2,rfl⟩:=wA e1
    have h2:=wF h2
    subst h2
    obtain⟨t,rfl⟩:=r
    have q:(if i<0 then -i else i)=(i.natAbs:Int):=by split <;> omega
    exact ZA I fun Q E hQ=>call_abs_int (by rw[q];exact hQ)
  | int =>
    obtain⟨x,v,rfl,r,e1⟩:=one1 e
    obtain⟨i,h2,rfl⟩:=wA e1
    exact bi_int h2 I r
  | ord =>
    obtain⟨x,v,rfl,r,e1⟩:=one1 e
    obtain⟨cs,h2,e2⟩:=bind_some e1
    obtain⟨c,h3,rfl⟩:=wA e2
    have h2:=toStr_some h2
    subst h2
    have h3:=ordA_some h3
    subst h3
    obtain⟨t,rfl⟩:=r
    exact ZA I fun Q E hQ=>P.ord_of_char (hQ _ _)
  | chr =>
    obtain⟨x,v,rfl,r,e1⟩:=one1 e
    obtain⟨i,h2,e2⟩:=bind_some e1
    obtain⟨hb,rfl⟩:=wJ e2
    have h2:=wF h2
    subst h2
    obtain⟨t,rfl⟩:=r
    exact yields_str I fun Q E hQ=>P.chr_of_int (by rw[Bool.or_eq_false_iff];exact⟨decide_eq_false (by omega),decide_eq_false (by omega)⟩) (hQ _ _)
  | any =>
    obtain⟨x,v,rfl,r,e1⟩:=one1 e
    obtain⟨l,h2,e2⟩:=bind_some e1
    obtain⟨bs,h3,rfl⟩:=wA e2
    have h2:=toLst_some h2
    subst h2
    exact bi_any h3 hA I r
  | isinstance =>
    obtain⟨⟨x,y⟩,h1,e1⟩:=bind_some (o:=two xs) e
    have h1:=two_some h1
    subst h1
    obtain⟨u,h2,e2⟩:=bind_some e1
    obtain⟨h2,_⟩:=wJ h2
    obtain⟨b,h3,rfl⟩:=wA e2
    obtain⟨v,w,rfl,r,r'⟩:=repL_two rs
    have h2:=isTupleTy_some h2
    change y=_ at h2
    subst h2
    rw[show w=_ from r']
    exact bi_isi h3 I r
  | list =>
    obtain⟨x,v,rfl,r,e1⟩:=one1 e
    obtain⟨l,h2,e2⟩:=bind_some e1
    obtain⟨hz,rfl⟩:=wJ e2
    have h2:=toTup_some h2
    subst h2
    exact bi_list hz I r
  | tuple =>
    obtain⟨x,v,rfl,r,e1⟩:=one1 e
    obtain⟨l,h2,e2⟩:=bind_some e1
    obtain⟨hz,rfl⟩:=wJ e2
    have h2:=toLst_some h2
    subst h2
    exact bi_tuple hz I r
  | min =>
    obtain⟨⟨x,y⟩,h1,e1⟩:=bind_some (o:=two xs) e
    have h1:=two_some h1
    subst h1
    obtain⟨a,h2,e2⟩:=bind_some e1
    obtain⟨b,h3,rfl⟩:=wA e2
    obtain⟨v,w,rfl,r,r'⟩:=repL_two rs
    have h4:x = .int a:=wF h2
    have h5:y = .int b:=wF h3
    clear h2 h3 e1 e2 e
    subst h4;subst h5
    obtain⟨t,rfl⟩:=r
    obtain⟨u,rfl⟩:=r'
    intro Q E hQ
    refine min_two_ints hA fun h' tk k=>?_
    split
    · rename_i hl
      exact hQ _ _ _ _ (Step.priv k) (I.keeps fun b o q_ e=>k b o e) ⟨_,by rw[if_pos hl]⟩
    · rename_i hl
      exact hQ _ _ _ _ (Step.priv k) (I.keeps fun b o q_ e=>k b o e) ⟨_,by rw[if_neg hl]⟩
  | _=>exact nos e
end
end
section
open PySem PySem.W PyProof.Rows PySem.Calls
theorem zip_look:∀ (ps:List Str)(vs:List Value),ps.length=vs.length→∀ x∈ps,((ps.zip vs).lookup x).isNone=false
  | [],_,_,x,h=>by cases h
  | p::ps,[],e,_,_=>by cases e
  | p :: ps,v::vs,e,x,h=>by
    rw[List.zip_cons_cons,List.lookup_cons]
    cases q:(x==p) with
    | true=>rfl
    | false =>
      have:x∈ps:=by
        rcases List.mem_cons.mp h with rfl | h
        · simp at q
        · exact h
      exact zip_look ps vs (by simpa using e) x this
theorem zip_pick:∀ (ps:List Str)(vs:List Value),ps.length=vs.length→ps.Nodup→∀ (qs:List (Str×Value)),(∀ x∈ps,qs.lookup x=(ps.zip vs).lookup x)→ps.filterMap (fun n=>(qs.lookup n).map fun v=>(n,v))=ps.zip vs
  | [],_,_,_,_,_=>by simp
  | p::ps,[],e,_,_,_=>by cases e
  | p :: ps,v::vs,e,hn,qs,hq=>by
    have h0:=hq p (by simp)
    rw[List.zip_cons_cons,List.lookup_cons,beq_self_eq_true] at h0
    rw[List.zip_cons_cons,List.filterMap_cons,h0]
    show(p,v)::_=_
    congr 1
    rw[List.nodup_cons] at hn
    refine zip_pick ps vs (by simpa using e) hn.2 qs fun x hx=>?_
    have:=hq x (List.mem_cons_of_mem _ hx)
    rw[List.zip_cons_cons,List.lookup_cons] at this
    have ne:(x==p)=false:=by
      rw[beq_eq_false_iff_ne];intro q;subst q;exact hn.1 hx
    rw[ne] at this
    exact this
theorem bind_core {fd:FuncData}{as:List Arg}{vs:List Value}{ps:List Str}(h0:fd.params=⟨[],as,none,[],[],none,[]⟩)(hd:fd.defaults = .none)(hn:([]:List Str)++as.map (·.arg)=ps)
   (hl:vs.length=ps.length) (hnd:ps.Nodup) :
    bindArgs fd ⟨vs,[]⟩=pure (ps.zip vs):=by
  unfold bindArgs
  rw[h0,hd]
  refine(if_neg (fun q=>?_)).trans ?_
  · change (decide (vs.length > (([]:List Str)++as.map (·.arg)).length)&&true)=true at q
    rw[hn,hl] at q
    exact absurd (of_decide_eq_true ((Bool.and_eq_true _ _).mp q).1) (Nat.lt_irrefl _)
  rw[show ∀ k,List.drop k ((none:Option (Array Value)).getD #[]).toList=[] from fun k=>List.drop_nil,List.zip_nil_right]
  refine(if_neg (fun q=>?_)).trans ?_
  · change (!((((([]:List Str)++as.map (·.arg)).take ((([]:List Str)++as.map (·.arg)).length-0)).filter fun n=>(((([]:List Str)++as.map (·.arg)).zip vs).lookup n).isNone)).isEmpty)=true at q
    rw[hn,List.filter_eq_nil_iff.mpr fun x hx=>by rw[zip_look ps vs hl.symm x (List.mem_of_mem_take hx)];exact Bool.noConfusion] at q
    cases q
  change (pure (((([]:List Str)++as.map (fun x:Arg=>x.arg))++[]).filterMap fun n:Str=>(((([]:List Str)++as.map (fun x:Arg=>x.arg)).zip vs).lookup n).map fun v=>(n,v)):Sem (List (Str×Value)))=_
  rw[hn,List.append_nil,zip_pick ps vs hl.symm hnd _ fun q_ q_=>rfl]
theorem bind_plain {fd:FuncData}{ps:List (List Nat)}{vs:List Value}(hp:plainArgs fd.params ps=true)(hd:fd.defaults = .none)(hk:fd.kwdefaults = .none)(hl:vs.length=ps.length)(hnd:ps.Nodup) :
    bindArgs fd ⟨vs,[]⟩=pure ((ps.map toS).zip vs):=by
  have b {a b:Bool} (h:(a&&b)=true):=(Bool.and_eq_true a b).mp h
  have h8:=b hp
  have h7:=b h8.1
  have h6:=b h7.1
  have h5:=b h6.1
  have h4:=b h5.1
  have h3:=b h4.1
  have h2:=b h3.1
  have e:([]:List Str)++fd.params.args.map (·.arg)=ps.map toS:=by
    rw[←of_decide_eq_true h7.2,List.map_map]
    rfl
  refine bind_core (as:=fd.params.args) ?_ hd e (hl.trans (List.length_map _).symm) (List.Pairwise.map toS (fun a b (q:a≠b) q'=>q (toS_inj.mp q')) hnd)
  have a1:=List.isEmpty_iff.mp h2.1
  have a2:=Option.isNone_iff_eq_none.mp h2.2
  have a3:=List.isEmpty_iff.mp h3.2
  have a4:=List.isEmpty_iff.mp h4.2
  have a5:=Option.isNone_iff_eq_none.mp h5.2
  have a6:=List.isEmpty_iff.mp h6.2
  generalize fd.params=p at a1 a2 a3 a4 a5 a6 ⊢
  refine via fun R_ k_=>?_
  obtain⟨x1,x2,x3,x4,x5,x6,x7⟩:=p
  refine k_ ?_
  cases a1;cases a2;cases a3;cases a4;cases a5;cases a6
  rfl
end
section
open PySem PySem.W PyProof.Rows PySem.Calls
theorem lookup_of_mem {K V:Type} [BEq K] [LawfulBEq K]:∀ {l:List (K×V)},(l.map (·.1)).Nodup→∀ {p:K}{v:V},(p,v)∈l→l.lookup p=some v
  | [],_,_,_,h=>by cases h
  | (q, w)::l,hn,p,v,h=>by
    rw[List.map_cons,List.nodup_cons] at hn
    rw[List.lookup_cons]
    rcases List.mem_cons.mp h with e | h
    · cases e;rw[beq_self_eq_true]
    · have ne:(p==q)=false:=by
        rw[beq_eq_false_iff_ne];intro e
        have hm:p∈l.map (·.1):=List.mem_map.mpr ⟨_,h,rfl⟩
        rw[e] at hm
        exact hn.1 hm
      rw[ne]
      exact lookup_of_mem hn.2 h
theorem wK {K V:Type} [BEq K] [LawfulBEq K]:∀ {l:List (K×V)}{p:K}{v:V},l.lookup p=some v→(p,v)∈l
  | [],_,_,h=>by cases h
  | (q,w)::l,p,v,h=>by
    rw[List.lookup_cons] at h
    cases e:(p==q) with
    | true =>
      rw[e] at h;cases h
      rw[beq_iff_eq] at e;subst e
      exact List.mem_cons_self
    | false =>
      rw[e] at h
      exact List.mem_cons_of_mem _ (wK h)
theorem zip_keys {ps:List Str}{vs:List Value}(h:vs.length=ps.length):(ps.zip vs).map (·.1)=ps:=by
  rw[List.map_fst_zip];exact Nat.le_of_eq h.symm
theorem zip_lookup {ps:List Str}{vs:List Value}(h:vs.length=ps.length)(hn:ps.Nodup){i:Nat}{p:Str}{v:Value}(hp:ps[i]? = some p)(hv:vs[i]? = some v) :
    (ps.zip vs).reverse.lookup p=some v:=by
  refine lookup_of_mem ?_ ?_
  · rw[List.map_reverse,zip_keys h]
    exact List.pairwise_reverse.mpr (List.Pairwise.imp (fun h=>Ne.symm h) hn)
  · rw[List.mem_reverse]
    refine List.mem_of_getElem? (i:=i) ?_
    rw[List.getElem?_zip_eq_some]
    exact⟨hp,hv⟩
theorem putCaps_len:∀ (caps:List (Nat×AV))(F:AF),(putCaps F caps).length=F.length
  | [],F=>rfl
  | (i,v)::r,F=>by
    show(putCaps (F.set i (some v)) r).length=_
    rw[putCaps_len r,List.length_set]
theorem putCaps_other:∀ (caps:List (Nat×AV))(F:AF)(i:Nat),(∀ c∈caps,c.1≠i)→(putCaps F caps)[i]? = F[i]?
  | [],F,i,_=>rfl
  | (j,v)::r,F,i,h=>by
    show(putCaps (F.set j (some v)) r)[i]? = _
    rw[putCaps_other r _ i fun c hc=>h c (List.mem_cons_of_mem _ hc),List.getElem?_set_ne (h (j,v) List.mem_cons_self)]
theorem putCaps_at:∀ (caps:List (Nat×AV))(F:AF)(i:Nat),i<F.length→(∃ c∈caps,c.1=i)→∃ v,(i,v)∈caps∧(putCaps F caps)[i]? = some (some v)
  | [],F,i,_,h=>by obtain⟨c,hc,_⟩:=h;cases hc
  | (j, v)::r,F,i,hi,h=>by
    by_cases hr:∃ c∈r,c.1=i
    · obtain⟨w,hw,e⟩:=putCaps_at r (F.set j (some v)) i (by rw[List.length_set];exact hi) hr
      exact⟨w,List.mem_cons_of_mem _ hw,e⟩
    · obtain ⟨c,hc,e⟩:=h
      rcases List.mem_cons.mp hc with rfl | hc
      · simp only at e;subst e
        refine⟨v,List.mem_cons_self,?_⟩
        show(putCaps (F.set j (some v)) r)[j]? = _
        rw[putCaps_other r _ j fun c hc q=>hr ⟨c,hc,q⟩,List.getElem?_set_self hi]
      · exact absurd ⟨c,hc,e⟩ hr
theorem isKind_iff {sc:Scope}{x:Str}{k:NameKind}:jH sc x k=true↔sc.names.lookup x=some k:=by
  unfold jH
  simp
section
variable {B:Base}{G:St}{H:AH}{s:Shared}
theorem repC_at {names:List (List Nat)}{cl:List (Str×Addr)}:∀ {caps:List (Nat×AV)},RepC B G names cl caps→∀ p∈caps,∃ n c o v,names[p.1]? = some n∧cl.lookup (toS n)=some c∧G.g c=some o∧o.data = .cell (some v)∧Rep B G p.2 v
  | [],_,p,hp=>by cases hp
  | q::r,⟨h1,h2⟩,p,hp=>by
    rcases List.mem_cons.mp hp with rfl | hp
    · exact h1
    · exact repC_at h2 p hp
theorem nodup_at {α:Type}{l:List α}(h:l.Nodup){i j:Nat}{x:α}(a:l[i]? = some x)(b:l[j]? = some x):i=j:=by
  obtain⟨hi,ei⟩:=List.getElem?_eq_some_iff.mp a
  obtain⟨hj,ej⟩:=List.getElem?_eq_some_iff.mp b
  have pw:=List.pairwise_iff_getElem.mp h
  rcases Nat.lt_trichotomy i j with q | q | q
  · exact absurd (ei.trans ej.symm) (pw i j hi hj q)
  · exact q
  · exact absurd (ej.trans ei.symm) (pw j i hj hi q)
structure ScopeOk (sc:Scope)(names:List (List Nat)):Prop where
  kind:sc.kind = .function
  gen:sc.isGenerator=false
  co:sc.isCoroutine=false
  nod:names.Nodup
  keys:(sc.names.map (·.1)).Nodup
  inf:∀ n∈names,inFrame sc (toS n)=true
theorem scopeOk_iff {sc:Scope}{names:List (List Nat)}(h:scopeOk sc names=true):ScopeOk sc names:=by
  unfold scopeOk at h
  simp only[Bool.and_eq_true,decide_eq_true_eq,List.all_eq_true,Bool.not_eq_true'] at h
  refine via fun R_ k_=>?_
  obtain⟨⟨⟨⟨⟨h1,h2⟩,h3⟩,h4⟩,h5⟩,h6⟩:=h
  refine k_ ?_
  exact⟨by simpa using h1,h2,h3,h4,h5,h6⟩
theorem frame_some {names np:Nat}{args:List AV}{caps:List (Nat×AV)}{F:AF}(e:frameOf names np args caps=some F) :
    args.length=np∧F=putCaps ((args.map some)++List.replicate (names-np) none) caps:=by
  unfold frameOf at e
  split at e
  · cases e;exact⟨by assumption,rfl⟩
  · cases e
end
section
variable {B:Base}{G:St}{H:AH}
theorem frOK_clo {k:Nat}{fd:FuncData}{args:List AV}{caps:List (Nat×AV)}{names:List (List Nat)}{np:Nat}(hn:names=B.cloN k)(hp':np=B.cloA k)(C:CloOk B k fd)(K:CapsOk names fd caps)
    {F:AF} (eF:frameOf names.length np args caps=some F) {vs:List Value} {h':Heap} (I:Inv B G H h') (rs:RepL B G args vs) (rc:RepC B G names fd.closure caps)
    {L:Addr} (lg:G.g L=none) (la:L ∉ G.adr) (lt:L ∉ B.tabP) (hns:h'.Ns L fun x=>((((names.take np).map toS).zip vs).reverse.lookup x)) {q:Str} {fn:Option Addr} {code:Value} :
    FrOK B B.T.bare fd.scope names (newEnv fd.scope L fd.globals fd.closure q fn code none fd.builtins) F G h':=by
  refine via fun R_ k_=>?_
  obtain⟨hp,hpl,hnp,hs,hc,hg,hb,hd,hk,hbody⟩:=C
  refine k_ ?_
  rw[←hn] at hp hpl hnp hs
  rw[←hp'] at hp hpl hnp
  clear hn hp' hbody
  have S:=scopeOk_iff hs
  obtain⟨ea,rfl⟩:=frame_some eF
  have hvl:vs.length=np:=by rw[rs.len,ea]
  have ncell:∀ x,jH fd.scope x .cell=false:=fun x=>by
    cases e:jH fd.scope x .cell with
    | false=>rfl
    | true=>exact absurd rfl (hc _ (wK (isKind_iff.mp e)))
  have hlen:((args.map some)++List.replicate (names.length-np) none:AF).length=names.length:=by
    rw[List.length_append,List.length_map,List.length_replicate,ea];exact Nat.add_sub_cancel' hnp
  refine⟨rfl,rfl,fun x e=>isKind_iff.mp e,fun x e=>isKind_iff.mp e,fun x e => .inl (isKind_iff.mp e),fun x e=>isKind_iff.mp e,S.kind,hg,hb,S.nod,?_,lg,la,lt,⟨_,hns,?_⟩,?_,?_,?_,?_,?_,?_⟩
  · rw[putCaps_len,hlen]
  · intro i n hn hl v hv
    rw[putCaps_other] at hv
    · have hi:i<args.length:=by
        rcases Nat.lt_or_ge i args.length with h | h
        · exact h
        · rw[List.getElem?_append_right (by rw[List.length_map];exact h)] at hv
          have:=List.mem_of_getElem? hv
          rw[List.mem_replicate] at this
          cases this.2
      rw[List.getElem?_append_left (by rw[List.length_map];exact hi),List.getElem?_map] at hv
      cases ha:args[i]? with
      | none=>rw[ha] at hv;cases hv
      | some a =>
        rw[ha] at hv;cases hv
        obtain⟨u,hu,ru⟩:=repL_get rs i v ha
        refine⟨u,zip_lookup (i:=i) (by rw[List.length_map,List.length_take,hvl];exact(Nat.min_eq_left hnp).symm) ?_ ?_ hu,ru⟩
        · exact List.Pairwise.map toS (fun a b (q:a≠b) q'=>q (toS_inj.mp q')) (List.Nodup.sublist (List.take_sublist _ _) S.nod)
        · rw[List.getElem?_map,List.getElem?_take_of_lt (ea▸hi),hn];rfl
    · intro c hc' e
      subst e
      obtain⟨n',hn',hfree⟩:=K.2 c hc'
      rw[hn] at hn'
      cases hn'
      rw[isKind_iff] at hl hfree
      rw[hl] at hfree;cases hfree
  · intro i n hn hk'
    rcases hk' with hk' | hk'
    · rw[ncell] at hk';cases hk'
    · obtain ⟨c,hc',hcn⟩:=K.1 _ (wK (isKind_iff.mp hk')) rfl
      have hcn:names[c.1]? = some n:=by
        have:(toS n).cps.toList=n:=by simp[toS]
        rw[this] at hcn;exact hcn
      have hi:c.1=i:=nodup_at S.nod hcn hn
      have hil:i<names.length:=(List.getElem?_eq_some_iff.mp hn).1
      obtain⟨v,hv,e⟩:=putCaps_at caps ((args.map some)++List.replicate (names.length-np) none) i (by rw[hlen];exact hil) ⟨c,hc',hi⟩
      refine via fun R_ k_=>?_
      obtain⟨n',cc,o,u,a1,a2,a3,a4,a5⟩:=repC_at rc (i,v) hv
      refine k_ ?_
      rw[hn] at a1;cases a1
      refine⟨cc,a2,?_⟩
      rw[e]
      exact⟨o,u,a3,a4,a5⟩
  · rintro a (ha | ⟨x,hx,_⟩)
    · refine via fun R_ k_=>?_
      obtain⟨o,_,_,e,_⟩:=hns
      refine k_ ?_
      exact⟨o,by rw[ha];exact e⟩
    · rw[ncell] at hx;cases hx
  · intro x y c hx
    rw[ncell] at hx;cases hx
  · intro w hw
    cases hw
  · intro k n a b s h;cases h
  · intro k n a b s h;cases h
end
end
section
open PySem PySem.W PyProof.Rows PySem.Calls
theorem set_some {F:AF}{i j:Nat}{x:Option AV}{y:Option AV}(h:(F.set i x)[j]? = some y):(i=j∧y=x)∨(i≠j∧F[j]? = some y):=by
  by_cases e:i=j
  · subst e
    have hi:i<F.length:=by
      have:=(List.getElem?_eq_some_iff.mp h).1
      rwa [List.length_set] at this
    rw[List.getElem?_set_self hi] at h;cases h
    exact .inl ⟨rfl,rfl⟩
  · rw[List.getElem?_set_ne e] at h
    exact .inr ⟨e,h⟩
section
variable {B:Base}{A:Around}{T:Tabs}{sc:Scope}{ns:List (List Nat)}{env:Env}{F:AF}{G:St}{H:AH}{s:Shared}
set_option tactic.hygienic true in
theorem store_name (P:FrOK B T sc ns env F G s.heap)(I:Inv B G H s.heap){i:Nat}{n:List Nat}{c:Bool}{x:AV}{v:Value}(hn:ns[i]? = some n)(hk:jH sc (toS n) (if c then .cell else .local)=true)
    (hc:c=true→F[i]?.join=none) (rx:Rep B G x v) {Q:Unit→Shared→Prop} {E:Value→Shared→Prop}
    (hQ:∀ G' h' tk',Step B (Own sc env) G s.heap G' h'→Inv B G' H h'→FrOK B T sc ns env (F.set i (some x)) G' h'→Q () { s with heap:=h',toks:=tk' }) :
    wpAny (model B.prog B.w) A (storeName env (toS n) v) Q E s:=by
  have hi:i<F.length:=by rw[P.len];exact(List.getElem?_eq_some_iff.mp hn).1
  have nameOf:∀ {j:Nat} {n':List Nat},ns[j]? = some n'→toS n'=toS n→j=i:=fun hj e=>by
    rw[toS_inj] at e;subst e;exact nodup_at P.nod hj hn
  cases c with
  | false =>
    simp only[Bool.false_eq_true,if_false] at hk
    obtain⟨m,hm,hl⟩:=P.loc
    have hp:(env.scope.kind == .class||(env.scope.kind == .module&&env.locals != env.globals))=false:=by rw[P.kind];rfl
    refine wpAny_storeName_local (P.kl _ hk) hm (fun h' hns sb=>?_) hp
    have k:∀ b o,b≠env.locals→s.heap.get? b=some o→h'.get? b=some o:=fun b o hb e=>by rw[sb.2 b hb];exact e
    have st:Step B (Own sc env) G s.heap G h':=by
      refine⟨fun b o q_ e=>?_,fun q_ q_ e=>e,fun q_ q_ q_ q_=>rfl,⟨[],(List.append_nil _).symm,fun q_ hm=>(List.not_mem_nil hm).elim⟩,fun b o hb q_ q_ e=>k b o (fun q=>hb (.inl q)) e⟩
      by_cases hb:b=env.locals
      · subst hb
        refine via fun R_ k_=>?_
        obtain⟨o,_,_,e,_⟩:=hns
        refine k_ ?_
        exact⟨o,e⟩
      · exact⟨o,k b o hb e⟩
    have I':Inv B G H h':=I.keeps fun b o hb e=>k b o (fun q=>by
      subst q
      rcases hb with hb | hb | hb
      · rw[P.lg] at hb;cases hb
      · exact P.la hb
      · exact P.lt hb) e
    refine hQ G h' _ st I' ⟨P.tg,P.tm,P.kl,P.kc,P.kf,P.kg,P.kind,P.glb,P.blt,P.nod,by rw[List.length_set];exact P.len,P.lg,P.la,P.lt,⟨_,hns,fun j n' hj hj' w hw=>?_⟩,fun j n' hj hj'=>?_,fun a ha=>(by
      obtain⟨o,e⟩:=P.own a ha
      by_cases hb:a=env.locals
      · subst hb
        refine via fun R_ k_=>?_
        obtain⟨o,_,_,e,_⟩:=hns
        refine k_ ?_
        exact⟨o,e⟩
      · exact⟨o,k _ _ hb e⟩),P.apart,P.site,P.tl,P.ts⟩
    · rcases set_some hw with⟨e,e'⟩ | ⟨e,e'⟩
      · subst e;cases e'
        rw[hn] at hj;cases hj
        exact⟨v,if_pos rfl,rx⟩
      · obtain⟨u,a,b⟩:=hl j n' hj hj' w e'
        refine⟨u,?_,b⟩
        show(if toS n'=toS n then some v else m (toS n'))=some u
        rw[if_neg (fun q=>e (nameOf hj q).symm)]
        exact a
    · obtain ⟨cc,a,b⟩:=P.cel j n' hj hj'
      refine⟨cc,a,?_⟩
      have hij:i≠j:=fun q=>by
        subst q
        rw[hn] at hj;cases hj
        rcases hj' with q | q <;> (rw[isKind_iff] at hk q;rw[hk] at q;cases q)
      rw[List.getElem?_set_ne hij]
      revert b
      cases F[j]? with
      | none=>exact fun⟨b1,⟨o,b2,b3⟩,b4,b5,b6,b7⟩=>⟨b1,⟨o,k _ _ b7 b2,b3⟩,b4,b5,b6,b7⟩
      | some z =>
        cases z with
        | none=>exact fun⟨b1,⟨o,b2,b3⟩,b4,b5,b6,b7⟩=>⟨b1,⟨o,k _ _ b7 b2,b3⟩,b4,b5,b6,b7⟩
        | some z=>exact fun b=>b
  | true =>
    simp only[if_true] at hk
    refine via fun R_ k_=>?_
    obtain⟨cc,hcc,hq⟩:=P.cel i n hn (.inl hk)
    have hq:jH sc (toS n) .cell=true∧(∃ o,s.heap.get? cc=some o∧o.data = .cell none)∧G.g cc=none∧cc ∉ G.adr∧cc ∉ B.tabP∧cc≠env.locals:=by
      have:=hc rfl
      revert hq
      cases hF:F[i]? with
      | none=>exact fun q=>q
      | some z =>
        rw[hF] at this
        cases z with
        | none=>exact fun q=>q
        | some z=>cases this
    obtain⟨_,hce,hg,hadr,htab,hloc⟩:=hq
    refine k_ ?_
    refine wpAny_storeName_cell P.kind (P.kc _ hk) hcc hce fun h' hce' sb=>?_
    obtain⟨o,ho,hd⟩:=hce'
    have k:∀ b o,b≠cc→s.heap.get? b=some o→h'.get? b=some o:=fun b o hb e=>by rw[sb.2 b hb];exact e
    have I':Inv B (G.put cc o) H h':=(I.keeps fun b o hb e=>k b o (fun q=>by
      subst q
      rcases hb with hb | hb | hb
      · rw[hg] at hb;cases hb
      · exact hadr hb
      · exact htab hb) e).freeze ho hadr htab fun o' e=>by rw[hg] at e;cases e
    have mono:∀ b o',G.g b=some o'→(G.put cc o).g b=some o':=fun b o' e=>by
      simp only[St.put]
      split
      · rename_i q;subst q;rw[hg] at e;cases e
      · exact e
    have st:Step B (Own sc env) G s.heap (G.put cc o) h':=by
      refine⟨fun b o' q_ e=>?_,mono,fun b o' q_ hb=>?_,⟨[],(List.append_nil _).symm,fun q_ hm=>(List.not_mem_nil hm).elim⟩,fun b o' hb q_ q_ e=>k b o' (fun q=>hb (.inr ⟨_,hk,by rw[q];exact hcc⟩)) e⟩
      · by_cases hb:b=cc
        · subst hb;exact⟨o,ho⟩
        · exact⟨o',k b o' hb e⟩
      · simp only[St.put]
        rw[if_neg (fun q=>hb (.inr ⟨_,hk,by rw[q];exact hcc⟩))]
    have rep:∀ {y:AV} {u:Value},Rep B G y u→Rep B (G.put cc o) y u:=fun r=>Rep.mono mono (fun q_ q_ e=>e) r
    obtain⟨m,hm,hl⟩:=P.loc
    refine hQ _ h' _ st I' ⟨P.tg,P.tm,P.kl,P.kc,P.kf,P.kg,P.kind,P.glb,P.blt,P.nod,by rw[List.length_set];exact P.len,?_,P.la,P.lt,⟨m,?_,fun j n' hj hj' w hw=>?_⟩,fun j n' hj hj'=>?_,fun a ha=>(by
      obtain⟨o',e⟩:=P.own a ha
      by_cases hb:a=cc
      · subst hb;exact⟨o,ho⟩
      · exact⟨o',k _ _ hb e⟩),P.apart,P.site,P.tl,P.ts⟩
    · simp only[St.put]
      rw[if_neg (fun q=>hloc q.symm)]
      exact P.lg
    · refine via fun R_ k_=>?_
      obtain⟨o',es,ep,e,r⟩:=hm
      refine k_ ?_
      exact⟨o',es,ep,k _ _ (fun q=>hloc q.symm) e,r⟩
    · rcases set_some hw with⟨e,e'⟩ | ⟨e,e'⟩
      · subst e
        rw[hn] at hj;cases hj
        rw[isKind_iff] at hk hj';rw[hk] at hj';cases hj'
      · obtain⟨u,a,b⟩:=hl j n' hj hj' w e'
        exact⟨u,a,rep b⟩
    · obtain ⟨c',a,b⟩:=P.cel j n' hj hj'
      refine⟨c',a,?_⟩
      by_cases hij:i=j
      · subst hij
        rw[hn] at hj;cases hj
        rw[a] at hcc;cases hcc
        rw[List.getElem?_set_self hi]
        exact⟨o,v,St.put_at ..,hd,rep rx⟩
      · rw [List.getElem?_set_ne hij]
        have un:(jH sc (toS n') .cell=true∧(∃ o,s.heap.get? c'=some o∧o.data = .cell none)∧G.g c'=none∧c' ∉ G.adr∧c' ∉ B.tabP∧c'≠env.locals) →
            (jH sc (toS n') .cell=true∧(∃ o,h'.get? c'=some o∧o.data = .cell none)∧(G.put cc o).g c'=none∧c' ∉ G.adr∧c' ∉ B.tabP∧c'≠env.locals):=by
          rintro⟨b1,⟨o',b2,b3⟩,b4,b5,b6,b7⟩
          have hne:c'≠cc:=fun q=>by
            subst q
            exact hij (nameOf hj (P.apart _ _ _ b1 hk a hcc)).symm
          refine⟨b1,⟨o',k _ _ hne b2,b3⟩,?_,b5,b6,b7⟩
          simp only[St.put]
          rw[if_neg hne];exact b4
        revert b
        cases F[j]? with
        | none=>exact un
        | some z =>
          cases z with
          | none=>exact un
          | some z =>
            rintro⟨o',u,b1,b2,b3⟩
            exact⟨o',u,mono _ _ b1,b2,rep b3⟩
end
end
section
open PySem PySem.W PyProof.Rows PySem.Calls
noncomputable def Goes (B:Base)(it v:Value)(tg:Expr→Prop)(X:Addr→Prop)(S:St→Heap→Prop)(G:St)(H:AH)(h:Heap):Prop :=
  ∀ (A:Around) (t:Expr) (s:Shared),tg t→s.heap=h→∀ (Q:Unit→Shared→Prop) (E:Value→Shared→Prop),
    (∀ G' h' tk',Step B X G h G' h'→Inv B G' H h'→S G' h'→Q () { s with heap:=h',toks:=tk' })→wpAny (model B.prog B.w) A (letOwnedTupleGo t it v) Q E s
structure Itr (B:Base)(it:Value)(tg:Expr→Prop)(X:Addr→Prop)(xs:List AV)(S:Nat→St→Heap→Prop):Prop where
  stay:∀ (k:Nat) (Y:Addr→Prop) (G:St) (H:AH) (h:Heap) (G':St) (H':AH) (h':Heap),S k G h→Inv B G H h→Inv B G' H' h'→Step B Y G h G' h'→(∀ a,X a→¬ Y a)→S k G' h'
  item:∀ (A:Around) (k:Nat) (s:Shared) (G:St) (H:AH) (x:AV),A.handled=none→xs[k]? = some x→S k G s.heap→Inv B G H s.heap→∀ (Q:Option Value→Shared→Prop) (E:Value→Shared→Prop),
    (∀ v G' h' tk',Step B X G s.heap G' h'→Inv B G' H h'→Rep B G' x v→Goes B it v tg X (S (k+1)) G' H h'→Q (some v) { s with heap:=h',toks:=tk' })→wpAny (model B.prog B.w) A (pyNext it) Q E s
  done:∀ (A:Around) (s:Shared) (G:St) (H:AH),A.handled=none→S xs.length G s.heap→Inv B G H s.heap→∀ (Q:Option Value→Shared→Prop) (E:Value→Shared→Prop),
    (∀ G' h' tk',Step B X G s.heap G' h'→Inv B G' H h'→Q none { s with heap:=h',toks:=tk' })→wpAny (model B.prog B.w) A (pyNext it) Q E s
  self:∀ (A:Around) (k:Nat) (s:Shared) (G:St),A.handled=none→S k G s.heap→∀ (Q:Value→Shared→Prop) (E:Value→Shared→Prop),Q it s→wpAny (model B.prog B.w) A (pyIter it) Q E s
section
variable {B:Base}
theorem Step.own {X:Addr→Prop}{G:St}{h h':Heap}(k:∀ b o,¬ X b→h.get? b=some o→h'.get? b=some o):Step B X G h G h' :=
  ⟨fun b o n e=>⟨o,k b o n e⟩,fun q_ q_ e=>e,fun q_ q_ q_ q_=>rfl,⟨[],(List.append_nil _).symm,fun q_ hm=>nomatch hm⟩,fun b o n q_ q_ e=>k b o n e⟩
structure Wst (B:Base)(fp wr:List Addr)(R:St→Prop)(G:St)(h:Heap):Prop where
  own:∀ b∈wr,b ∉ G.adr∧b ∉ B.tabP∧G.g b=none∧∃ o,h.get? b=some o
  fix:∀ b∈fp,b ∉ wr→∃ o,G.g b=some o
  rel:R G
theorem Inv.own {G:St}{H:AH}{h h':Heap}(I:Inv B G H h){wr:List Addr}(n:∀ b∈wr,b ∉ G.adr∧b ∉ B.tabP∧G.g b=none)(k:∀ b o,b ∉ wr→h.get? b=some o→h'.get? b=some o):Inv B G H h' :=
  I.keeps fun b o hb e=>k b o (fun q=>by
    obtain⟨a1,a2,a3⟩:=n b q
    rcases hb with hb | hb | hb
    · rw[a3] at hb;cases hb
    · exact a1 hb
    · exact a2 hb) e
theorem goes_plain {I:Addr}{v:Value}{X:Addr→Prop}{S:St→Heap→Prop}{G:St}{H:AH}{h:Heap}{o:Obj}{ty:String}(e:h.get? I=some o)(hc:o.cls = .type ty)
    (hn:["enumerate","zip","dict_itemiterator","dict_reverseitemiterator","odict_iterator","itertools.zip_longest","itertools.pairwise"].contains ty=false) (I':Inv B G H h) (hS:S G h):Goes B (.ref I) v (fun q_=>True) X S G H h:=by
  intro A t s _ hs Q E hQ
  subst hs
  have q:Q () s:=hQ G s.heap s.toks (Step.refl ..) I' hS
  have key : ∀ a b c,wpAny (model B.prog B.w) A (letOwnedTupleGo (.Tuple a b c) (.ref I) v) Q E s:=fun a b c=>by
    cases v <;> first
      | exact wpAny_pure q
      | (refine wpAny_bind (m:=load I) (wpAny_load e ?_)
         rw[hc]
         cases o.data <;> first
           | exact wpAny_pure q
           | (dsimp only
              rw[hn,Bool.false_and,if_neg Bool.false_ne_true]
              exact wpAny_pure q))
  cases t with
  | Tuple a b c=>exact key a b c
  | List a c=>exact key a 0 c
  | _=>exact wpAny_pure q
theorem Itr.ofWalks {I:Addr}{fp wr:List Addr}{n:Nat}{P:Nat→Value→Prop}{W:Nat→Heap→Prop}{xs:List AV}(w:∀ A:Around,A.handled=none→Walks B.prog B.w A I fp wr n P W)(hn:xs.length=n)
    (lv:∀ k h,W k h→∀ b∈wr,∃ o,h.get? b=some o) {ty:String} (hty:∀ k h,W k h→∃ o,h.get? I=some o∧o.cls = .type ty)
    (hnt:["enumerate","zip","dict_itemiterator","dict_reverseitemiterator","odict_iterator","itertools.zip_longest","itertools.pairwise"].contains ty=false) {R:St→Prop} (hR:∀ (G G':St),R G→(∀ b o,G.g b=some o→G'.g b=some o)→(∀ (i:Nat) p,G.al[i]? = some p→G'.al[i]? = some p)→R G')
    (hP:∀ (G:St) (i:Nat) (x:AV) (v:Value),R G→xs[i]? = some x→P i v→Rep B G x v):Itr B (.ref I) (fun q_=>True) (· ∈ wr) xs fun k G h=>W k h∧Wst B fp wr R G h where
  stay := fun k Y G H h G' H' h' ⟨a,b⟩ I I' st hY=>by
    have keep:∀ b∈fp,∀ o,h.get? b=some o→h'.get? b=some o:=fun c hc o e=>by
      by_cases q:c∈wr
      · obtain⟨x1,x2,x3,x4⟩:=b.own c q
        exact st.keep c o (hY c q) x1 x2 e
      · obtain⟨o',x⟩:=b.fix c hc q
        have e1:=I.sub _ _ x
        rw[e] at e1;cases e1
        exact I'.sub _ _ (st.mono _ _ x)
    refine⟨?_,fun c hc=>?_,fun c hc q=>?_,?_⟩
    · exact(w {} rfl).frame k h h' a keep
    · refine via fun R_ k_=>?_
      obtain⟨x1,x2,x3,o,x4⟩:=b.own c hc
      refine k_ ?_
      exact⟨not_new st x1 (hY c hc) x4,x2,(st.ext c o x4 (hY c hc)).trans x3,o,st.keep c o (hY c hc) x1 x2 x4⟩
    · obtain⟨o,x⟩:=b.fix c hc q
      exact⟨o,st.mono _ _ x⟩
    · exact hR G G' b.rel st.mono fun i p e=>st.alAt e
  item :=fun A k s G H x hA hx ⟨a,b⟩ I Q E hQ=>by
    have hk:k<n:=by rw[←hn];exact(List.getElem?_eq_some_iff.mp hx).1
    refine(w A hA).item k s Q E hk a fun v h' tk hv hw kp=>?_
    have st:Step B (· ∈ wr) G s.heap G h':=Step.own kp
    obtain⟨o,ho,hc⟩:=hty _ _ hw
    have I':=I.own (fun c hc=>⟨(b.own c hc).1,(b.own c hc).2.1,(b.own c hc).2.2.1⟩) kp
    exact hQ v G h' tk st I' (hP G k x v b.rel hx hv)
      (goes_plain ho hc hnt I' ⟨hw,fun c hc=>⟨(b.own c hc).1,(b.own c hc).2.1,(b.own c hc).2.2.1,lv _ _ hw c hc⟩,b.fix,b.rel⟩)
  self:=fun A k s G hA ⟨a,b⟩ Q E hQ=>(w A hA).self k s Q E a hQ
  done:=fun A s G H hA ⟨a,b⟩ I Q E hQ=>by
    rw[hn] at a
    refine(w A hA).done s Q E a fun h' tk kp=>?_
    exact hQ G h' tk (Step.own kp) (I.own (fun c hc=>⟨(b.own c hc).1,(b.own c hc).2.1,(b.own c hc).2.2.1⟩) kp)
noncomputable def Iters (B:Base)(A:Around)(tg:Expr→Prop)(t:Sem Value)(G:St)(H:AH)(xs:List AV)(s:Shared):Prop :=
  ∀ (Q:Value→Shared→Prop) (E:Value→Shared→Prop),(∀ it X S G' h' tk',Step B Pure G s.heap G' h'→Inv B G' H h'→Itr B it tg X xs S→S 0 G' h'→(∀ a,X a→s.heap.get? a=none∧∃ o,h'.get? a=some o)→Q it { s with heap:=h',toks:=tk' }) →
    wpAny (model B.prog B.w) A t Q E s
section
variable {A:Around}{G:St}{H:AH}{s:Shared}
theorem push_itr (I:Inv B G H s.heap){o:Obj}(hf:o.isFreed=false):Step B Pure G s.heap G (s.heap.push o)∧Inv B G H (s.heap.push o) ∧
    (s.heap.objs.size ∉ G.adr∧s.heap.objs.size ∉ B.tabP∧G.g s.heap.objs.size=none∧∃ o',(s.heap.push o).get? s.heap.objs.size=some o'):=by
  have k:∀ b o',s.heap.get? b=some o'→(s.heap.push o).get? b=some o':=fun b o' e=>Heap.get?_push_of_some _ e
  exact⟨Step.priv k,I.keeps fun b o' q_ e=>k b o' e,fun m=>absurd (I.lt m) (Nat.lt_irrefl _),fun m=>absurd (I.tabLt m) (Nat.lt_irrefl _),I.gNew (Nat.le_refl _),_,Heap.get?_push_size _ hf⟩
theorem ne_end {a:Addr}{o:Obj}(e:s.heap.get? a=some o):a≠s.heap.objs.size:=fun q=>by
  rw[q] at e
  exact absurd (Heap.lt_size e) (Nat.lt_irrefl _)
theorem iter_lst {xs:List AV}{v:Value}(I:Inv B G H s.heap)(r:Rep B G (.lst xs) v):Iters B A (fun q_=>True) (pyIter v) G H xs s:=fun Q E hQ=>by
  obtain⟨a,vs,n,rfl,g,ra⟩:=r
  have ho:=I.sub _ _ g
  have hl:s.heap.IsList a vs:=⟨_,ho,rfl,n,rfl⟩
  refine wpAny_pyIter_list hl ?_
  obtain⟨st,I',own⟩:=push_itr (B:=B) I (o:={ cls := .type "list_iterator",data := .fields #[.ref a,.int 0 0] }) rfl
  have W:=Itr.ofWalks (B:=B) (xs:=xs) (fun A (hA:A.handled=none)=>Walks.list (prog:=B.prog) (w:=B.w) (A:=A) hA s.heap.objs.size a (ne_end ho) vs) (ZQ ra).symm
    (fun k h st b hb=>by
      rw[List.mem_singleton] at hb;subst hb
      obtain⟨o,e,_⟩:=st.1
      exact⟨o,e⟩) (fun k h st=>let ⟨o,e,c,_⟩:=st.1;⟨o,e,c⟩) (by decide) (R:=fun G=>RepL B G xs vs.toList) (fun G G' r k ka=>RepL.mono k ka r)
    (fun G i x v r hx hv=>by
      obtain⟨u,hu,ru⟩:=repL_get r i x hx
      rw[Array.getElem?_toList,hv] at hu;cases hu
      exact ru)
  refine hQ _ _ _ G _ s.toks st I' W ⟨⟨⟨_,Heap.get?_push_size _ rfl,rfl,rfl⟩,?_⟩,fun b hb=>?_,fun b hb hb'=>?_,ra⟩ fun b hb=>?_
  · obtain⟨o,ho,r⟩:=hl
    exact⟨o,Heap.get?_push_of_some _ ho,r⟩
  · rw[List.mem_singleton] at hb;subst hb;exact own
  · rcases List.mem_cons.mp hb with q | q
    · exact absurd (by rw[q];exact List.mem_singleton_self _) hb'
    · rw[List.mem_singleton] at q;subst q;exact⟨_,g⟩
  · rw[List.mem_singleton] at hb;subst hb
    exact⟨Heap.get?_end _,own.2.2.2⟩
theorem iter_tup {xs:List AV}{v:Value}(I:Inv B G H s.heap)(r:Rep B G (.tup xs) v):Iters B A (fun q_=>True) (pyIter v) G H xs s:=fun Q E hQ=>by
  obtain⟨a,vs,n,rfl,g,ra⟩:=r
  have ho:=I.sub _ _ g
  have hl:s.heap.IsTuple a vs:=⟨_,ho,rfl,n,rfl⟩
  refine wpAny_pyIter_tuple hl ?_
  obtain⟨st,I',own⟩:=push_itr (B:=B) I (o:={ cls := .type "tuple_iterator",data := .fields #[.ref a,.int 0 0] }) rfl
  have W:=Itr.ofWalks (B:=B) (xs:=xs) (fun A (hA:A.handled=none)=>Walks.tuple (prog:=B.prog) (w:=B.w) (A:=A) hA s.heap.objs.size a (ne_end ho) vs) (ZQ ra).symm
    (fun k h st b hb=>by
      rw[List.mem_singleton] at hb;subst hb
      obtain⟨o,e,_⟩:=st.1
      exact⟨o,e⟩) (fun k h st=>let ⟨o,e,c,_⟩:=st.1;⟨o,e,c⟩) (by decide) (R:=fun G=>RepL B G xs vs.toList) (fun G G' r k ka=>RepL.mono k ka r)
    (fun G i x v r hx hv=>by
      obtain⟨u,hu,ru⟩:=repL_get r i x hx
      rw[Array.getElem?_toList,hv] at hu;cases hu
      exact ru)
  refine hQ _ _ _ G _ s.toks st I' W ⟨⟨⟨_,Heap.get?_push_size _ rfl,rfl,rfl⟩,?_⟩,fun b hb=>?_,fun b hb hb'=>?_,ra⟩ fun b hb=>?_
  · obtain⟨o,ho,r⟩:=hl
    exact⟨o,Heap.get?_push_of_some _ ho,r⟩
  · rw[List.mem_singleton] at hb;subst hb;exact own
  · rcases List.mem_cons.mp hb with q | q
    · exact absurd (by rw[q];exact List.mem_singleton_self _) hb'
    · rw[List.mem_singleton] at q;subst q;exact⟨_,g⟩
  · rw[List.mem_singleton] at hb;subst hb
    exact⟨Heap.get?_end _,own.2.2.2⟩
theorem sign_rep {cs:List Nat}{i:Nat}{x:AV}{v:Value}(hx:(cs.map fun c=>AV.str [c])[i]? = some x)(hv:SignAt (toS cs) i v):Rep B G x v:=by
  obtain⟨c,u,e,rfl⟩:=hv
  rw[List.getElem?_map] at hx
  have e':cs[i]? = some c:=by simpa[toS] using e
  rw[e'] at hx;cases hx
  exact⟨u,rfl⟩
set_option tactic.hygienic true in
theorem iter_str {cs:List Nat}{v:Value}(I:Inv B G H s.heap)(r:Rep B G (.str cs) v):Iters B A (fun q_=>True) (pyIter v) G H (cs.map fun c => .str [c]) s:=fun Q E hQ=>by
  obtain⟨t,rfl⟩:=r
  refine wpAny_pyIter_strU ?_
  have hn:(cs.map fun c=>AV.str [c]).length=(toS cs).cps.size:=by
    rw[List.length_map]
    exact(ZF cs).symm
  obtain⟨st,I',own⟩:=push_itr (B:=B) I (o:={ cls := .type (strIterType (toS cs)),data := .fields #[.str (toS cs) t,.int 0 0] }) rfl
  have lv:∀ (ty:String) k (h:Heap),h.IsStrIter s.heap.objs.size ty (toS cs) t k→∀ b∈[s.heap.objs.size],∃ o,h.get? b=some o:=fun ty k h st b hb=>by
    rw[List.mem_singleton] at hb;subst hb
    obtain⟨o,e,_⟩:=st
    exact⟨o,e⟩
  have fin:∀ ty,strIterType (toS cs)=ty→Itr B (.ref s.heap.objs.size) (fun q_=>True) (· ∈ [s.heap.objs.size]) (cs.map fun c=>AV.str [c]) (fun k G h=>h.IsStrIter s.heap.objs.size ty (toS cs) t k∧Wst B [s.heap.objs.size] [s.heap.objs.size] (fun q_=>True) G h) →
      Q (.ref s.heap.objs.size) { s with heap:=s.heap.push { cls := .type (strIterType (toS cs)),data := .fields #[.str (toS cs) t,.int 0 0] } }:=fun ty ht W=>by
    refine hQ _ _ _ G _ s.toks st I' W ⟨⟨_,Heap.get?_push_size _ rfl,by rw[ht],rfl⟩,fun b hb=>?_,fun b hb hb'=>absurd hb hb',trivial⟩ fun b hb=>?_
    · rw[List.mem_singleton] at hb;subst hb;exact own
    · rw[List.mem_singleton] at hb;subst hb
      exact⟨Heap.get?_end _,own.2.2.2⟩
  by_cases ha:strIterType (toS cs) = "str_ascii_iterator"
  · exact fin _ ha (Itr.ofWalks (fun A hA=>Walks.strAscii hA s.heap.objs.size (toS cs) t) hn (lv _) (fun k h st=>let ⟨o,e,c,_⟩:=st;⟨o,e,c⟩) (by decide) (fun q_ q_ q_ q_ q_=>trivial) fun G i x v q_ hx hv=>sign_rep hx hv)
  · have hb:strIterType (toS cs) = "str_iterator" :=by
      unfold strIterType at ha ⊢
      split at ha
      · exact absurd rfl ha
      · rename_i q;rw[if_neg q]
    exact fin _ hb (Itr.ofWalks (fun A hA=>Walks.strWide hA s.heap.objs.size (toS cs) t) hn (lv _) (fun k h st=>let ⟨o,e,c,_⟩:=st;⟨o,e,c⟩) (by decide) (fun q_ q_ q_ q_ q_=>trivial) fun G i x v q_ hx hv=>sign_rep hx hv)
end
end
end
section
open PySem PySem.W PyProof.Rows PySem.Calls
section
variable {B:Base}{A:Around}{T:Tabs}{sc:Scope}{ns:List (List Nat)}{env:Env}
noncomputable def AsT (B:Base)(A:Around)(T:Tabs)(sc:Scope)(ns:List (List Nat))(env:Env)(t:Expr)(m:AV→AF→AM AF):Prop :=
  ∀ (F:AF) (s:Shared) (G:St) (H:AH) (x:AV) (v:Value) (F':AF) (H':AH),FrOK B T sc ns env F G s.heap→Inv B G H s.heap→Rep B G x v→m x F H=some (F',H') →
  ∀ (Q:Unit→Shared→Prop) (E:Value→Shared→Prop),(∀ G' h' tk',Step B (Own sc env) G s.heap G' h'→Inv B G' H' h'→FrOK B T sc ns env F' G' h'→Q () { s with heap:=h',toks:=tk' }) →
    wpAny (model B.prog B.w) A (assign t env v) Q E s
theorem as_var {i:Nat}{c:Bool}{n:List Nat}{x:Str}{p:Pos}(hn:ns[i]? = some n)(hx:isS n x=true)(hk:jH sc x (if c then .cell else .local)=true) :
    AsT B A T sc ns env (.Name x p) (fun v F=>zZ (jW (aif ((i<F.length&&(!c||(F[i]?.join).isNone))=true) ())) fun q_=>zH (F.set i (some v))):=fun F s G H y v F' H' P I r eq Q E hQ=>by
  rw[isS_eq hx] at hk ⊢
  obtain⟨hc,eq⟩:=ZZ eq
  obtain⟨rfl,rfl⟩:=zF eq
  have hc:=(Bool.or_eq_true _ _).mp ((Bool.and_eq_true _ _).mp hc).2
  refine wpAny_assign_Name (store_name P I hn hk (fun hcc=>?_) r fun G' h' tk' st I' P'=>hQ G' h' tk' st I' P')
  rcases hc with q | q
  · rw[hcc] at q;cases q
  · exact Option.isNone_iff_eq_none.mp q
theorem as_attr {o:Expr}{f:Fld}{p:Pos}{mo:AF→AM AV}(K:ClassesOk B)(ho:∀ F,EvE B A T sc ns env F o (mo F)) :
    AsT B A T sc ns env (.Attribute o f.name p) (fun v F=>zZ (mo F) fun x=>zZ (asetA x f v) fun q_=>zH F):=fun F s G H y v F' H' P I r eq Q E hQ=>by
  obtain⟨x,H1,e1,eq⟩:=zJ eq
  obtain⟨u,H2,e2,eq⟩:=zJ eq
  obtain⟨rfl,rfl⟩:=zF eq
  show wpAny _ A (do
    let ov ←holding [v] (eval o env)
    standAt p.atName
    holding [v,ov] (setAttr ov f.name v)
    release [v,ov] []) Q E s
  refine wpAny_bind (wpAny_holding (ho F s G H x H1 P I e1 _ _ fun w G1 h1 t1 s1 I1 P1 r1=>wpAny_bind (wpAny_standAt (wpAny_bind (wpAny_holding ?_)))))
  refine op_setAttr K e2 I1 r1 (s1.rep r) _ _ fun G2 h2 t2 s2 I2=>wpAny_release ?_
  exact hQ G2 h2 t2 (s1.trans s2).pure I2 (P1.step s2)
theorem assign_sub_eq (o i:Expr)(p:Pos)(v:Value):assign (.Subscript o i p) env v=(do
    let ov ←holding [v] (eval o env)
    let iv ←holding [v,ov] (eval i env)
    standAt p
    holding [v,ov,iv] (setItem ov iv v)
    release (match i with | .Slice _ _ none _=>[iv,v,ov] | _=>[v,ov,iv]) []):=rfl
theorem as_sub {o i:Expr}{p:Pos}{mo mi:AF→AM AV}(ho:∀ F,EvE B A T sc ns env F o (mo F))(hi:∀ F,EvE B A T sc ns env F i (mi F))(hs:isSlice i=false) :
    AsT B A T sc ns env (.Subscript o i p) (fun v F=>zZ (mo F) fun x=>zZ (mi F) fun k=>zZ (asetI x k v) fun q_=>zH F):=fun F s G H y v F' H' P I r eq Q E hQ=>by
  obtain⟨x,H1,e1,eq⟩:=zJ eq
  obtain⟨k,H2,e2,eq⟩:=zJ eq
  obtain⟨u,H3,e3,eq⟩:=zJ eq
  obtain⟨rfl,rfl⟩:=zF eq
  rw[assign_sub_eq]
  refine wpAny_bind (wpAny_holding (ho F s G H x H1 P I e1 _ _ fun w G1 h1 t1 s1 I1 P1 r1=>?_))
  refine wpAny_bind (wpAny_holding (hi F _ G1 H1 k H2 P1 I1 e2 _ _ fun w2 G2 h2 t2 s2 I2 P2 r2=>wpAny_bind (wpAny_standAt (wpAny_bind (wpAny_holding ?_)))))
  refine op_setItem e3 I2 (s2.rep r1) r2 (s2.rep (s1.rep r)) _ _ fun G3 h3 t3 s3 I3=>wpAny_release ?_
  exact hQ G3 h3 t3 (s1.trans (s2.trans s3)).pure I3 (P2.step s3)
noncomputable abbrev AsTs (B:Base)(A:Around)(T:Tabs)(sc:Scope)(ns:List (List Nat))(env:Env)(ts:List Expr)(m:List AV→AF→AM AF):Prop :=
  (∀ F H xs F' H',m xs F H=some (F',H')→xs.length=ts.length) ∧
  ∀ (F:AF) (s:Shared) (G:St) (H:AH) (xs:List AV) (vs:List Value) (F':AF) (H':AH),FrOK B T sc ns env F G s.heap→Inv B G H s.heap→RepL B G xs vs→m xs F H=some (F',H') →
  ∀ (Q:Unit→Shared→Prop) (E:Value→Shared→Prop),(∀ G' h' tk',Step B (Own sc env) G s.heap G' h'→Inv B G' H' h'→FrOK B T sc ns env F' G' h'→Q () { s with heap:=h',toks:=tk' }) →
    wpAny (model B.prog B.w) A (assignInOrder ((assignEach ts env).map (·.2)) vs) Q E s
theorem asts_nil:AsTs B A T sc ns env [] (fun xs F=>zZ (jW (aif (xs=[]) ())) fun q_=>zH F):=by
  refine⟨fun F H xs F' H' eq=>?_,fun F s G H xs vs F' H' P I r eq Q E hQ=>?_⟩
  · rw[(ZZ eq).1];rfl
  · obtain⟨_,eq⟩:=ZZ eq
    obtain⟨rfl,rfl⟩:=zF eq
    exact wpAny_pure (hQ G s.heap s.toks (Step.refl ..) I P)
theorem head_some {α:Type}:∀ {xs:List α}{x:α},xs.head? = some x→xs=x::xs.tail
  | _::_,_,h=>by cases h;rfl
theorem assignEach_cons {t:Expr}{ts:List Expr}(h:isStar t=false):assignEach (t::ts) env=(false,assign t env)::assignEach ts env:=by
  cases t <;> first | rfl | cases h
theorem asts_cons {t:Expr}{ts:List Expr}{m:AV→AF→AM AF}{ms:List AV→AF→AM AF}(hs:isStar t=false)(h:AsT B A T sc ns env t m)(hr:AsTs B A T sc ns env ts ms) :
    AsTs B A T sc ns env (t::ts) (fun xs F=>zZ (jW xs.head?) fun x=>zZ (m x F) fun F'=>ms xs.tail F'):=by
  refine⟨fun F H xs F' H' eq=>?_,fun F s G H xs vs F' H' P I r eq Q E hQ=>?_⟩
  · refine via fun R_ k_=>?_
    obtain⟨x,h1,eq⟩:=jB eq
    obtain⟨F1,H1,e1,eq⟩:=zJ eq
    refine k_ ?_
    rw[head_some h1,List.length_cons,List.length_cons,hr.1 _ _ _ _ _ eq]
  · refine via fun R_ k_=>?_
    obtain⟨x,h1,eq⟩:=jB eq
    obtain⟨F1,H1,e1,eq⟩:=zJ eq
    refine k_ ?_
    rw[head_some h1] at r
    obtain⟨v,r',rfl,rx,rr⟩:=r
    rw[assignEach_cons hs,List.map_cons]
    show wpAny _ A (do holding r' (assign t env v);assignInOrder ((assignEach ts env).map (·.2)) r') Q E s
    refine wpAny_bind (wpAny_holding (h F s G H x v F1 H1 P I rx e1 _ _ fun G1 h1 t1 s1 I1 P1=>?_))
    exact hr.2 F1 _ G1 H1 xs.tail r' F' H' P1 I1 (s1.repL rr) eq _ _ fun G2 h2 t2 s2 I2 P2=>hQ G2 h2 t2 (s1.trans s2) I2 P2
theorem noStar_each:∀ {ts:List Expr},(ts.all fun t => !isStar t)=true→(assignEach ts env).findIdx? (·.1)=none∧(assignEach ts env).length=ts.length
  | [],_=>⟨rfl,rfl⟩
  | t::ts,h=>by
    rw[List.all_cons,Bool.and_eq_true] at h
    obtain⟨a,b⟩:=noStar_each (ts:=ts) h.2
    rw[assignEach_cons (by simpa using h.1)]
    refine⟨?_,by rw[List.length_cons,List.length_cons,b]⟩
    rw[List.findIdx?_cons]
    simp[a]
theorem as_tup {ts:List Expr}{k:Nat}{p:Pos}{ms:List AV→AF→AM AF}(hA:A.handled=none)(hs:(ts.all fun t => !isStar t)=true)(h:AsTs B A T sc ns env ts ms) :
    AsT B A T sc ns env (.Tuple ts k p) (fun v F=>zZ (jW (toTup v)) fun xs=>ms xs F):=fun F s G H y v F' H' P I r eq Q E hQ=>by
  obtain⟨xs,h1,eq⟩:=jB eq
  have h1:=toTup_some h1
  subst h1
  obtain⟨a,vs,rfl,ha,ra⟩:=isTup I r
  obtain⟨n1,n2⟩:=noStar_each (env:=env) hs
  refine wpAny_assign_Tuple hA ha (by rw[n2,ZQ ra];exact(h.1 _ _ _ _ _ eq).symm) n1 fun h' ke=>?_
  have k:∀ b o,s.heap.get? b=some o→h'.get? b=some o:=fun b o e=>ke b o (ne_end e) e
  have st:Step B Pure G s.heap G h':=Step.priv k
  exact h.2 F _ G H xs _ F' H' (P.step st) (I.keeps fun b o q_ e=>k b o e) ra eq _ _ fun G2 h2 t2 s2 I2 P2=>hQ G2 h2 t2 (st.pure.trans s2) I2 P2
noncomputable def FloR (B:Base)(G:St):Flo→Flow→Prop
  | .next,.next=>True
  | .ret v,.ret u=>Rep B G v u
  | _,_=>False
noncomputable def ExS (B:Base)(A:Around)(T:Tabs)(sc:Scope)(ns:List (List Nat))(env:Env)(t:Sem Flow)(m:AF→AM (Flo×AF)):Prop :=
  ∀ (F:AF) (s:Shared) (G:St) (H:AH) (fl:Flo) (F':AF) (H':AH),FrOK B T sc ns env F G s.heap→Inv B G H s.heap→m F H=some ((fl,F'),H') →
  ∀ (Q:Flow→Shared→Prop) (E:Value→Shared→Prop),(∀ f G' h' tk',Step B (Own sc env) G s.heap G' h'→Inv B G' H' h'→FrOK B T sc ns env F' G' h'→FloR B G' fl f→Q f { s with heap:=h',toks:=tk' }) →
    wpAny (model B.prog B.w) A t Q E s
theorem ex_ret {e:Expr}{p:Pos}{me:AF→AM AV}(h:∀ F,EvE B A T sc ns env F e (me F)):ExS B A T sc ns env (exec (.Return (some e) p) env) (fun F=>zZ (me F) fun v=>zH (.ret v,F)):=fun F s G H fl F' H' P I eq Q E hQ=>by
  obtain⟨x,H1,e1,eq⟩:=zJ eq
  obtain⟨e2,rfl⟩:=zF eq
  cases e2
  exact wpAny_Return_some (h F s G H x _ P I e1 _ _ fun v G1 h1 t1 s1 I1 P1 r1=>hQ _ G1 h1 t1 s1.pure I1 P1 r1)
theorem ex_retN {p:Pos}:ExS B A T sc ns env (exec (.Return none p) env) (fun F=>zH (.ret .none,F)):=fun F s G H fl F' H' P I eq Q E hQ=>by
  obtain⟨e2,rfl⟩:=zF eq
  cases e2
  exact wpAny_Return_none (hQ _ G s.heap s.toks (Step.refl ..) I P rfl)
theorem ex_expr {e:Expr}{p:Pos}{me:AF→AM AV}(hc:notComp e=true)(h:∀ F,EvE B A T sc ns env F e (me F)) :
    ExS B A T sc ns env (exec (.Expr e p) env) (fun F=>zZ (me F) fun v=>zZ (jW (aif ((v.isNone||(wY v).isSome)=true) ())) fun q_=>zH (.next,F)):=fun F s G H fl F' H' P I eq Q E hQ=>by
  obtain⟨x,H1,e1,eq⟩:=zJ eq
  obtain⟨hx,eq⟩:=ZZ eq
  obtain⟨e2,rfl⟩:=zF eq
  cases e2
  have hi:interactive env=false:=by
    unfold interactive
    rw[P.kind];rfl
  have hs:swapsWith e none p.line env=pure false:=by
    unfold swapsWith
    cases e <;> first | rfl | cases hc
  refine wpAny_Expr (h F s G H x _ P I e1 _ _ fun v G1 h1 t1 s1 I1 P1 r1=>?_) hi hs
  cases x with
  | none =>
    rw[show v=_ from r1]
    exact hQ _ G1 h1 t1 s1.pure I1 P1 trivial
  | int i =>
    obtain⟨t,rfl⟩:=r1
    exact hQ _ G1 h1 t1 s1.pure I1 P1 trivial
  | _=>exact bad hx
theorem ex_cond {c:Expr}{a b:List Stmt}{p:Pos}{mc:AF→AM AV}{ma mb:AF→AM (Flo×AF)}(hc:∀ F,EvT B A T sc ns env F c (mc F))(ha:ExS B A T sc ns env (execs a env) ma)(hb:ExS B A T sc ns env (execs b env) mb) :
    ExS B A T sc ns env (exec (.If c a b p) env) (fun F=>zZ (mc F) fun v=>zZ (jW (wH v)) fun t=>if t then ma F else mb F):=fun F s G H fl F' H' P I eq Q E hQ=>by
  obtain⟨t,H1,e1,eq⟩:=JZ eq
  refine wpAny_If (hc F s G H t H1 P I (tst_of e1) _ _ fun v G1 h1 t1 s1 I1 P1 r1=>?_)
  subst r1
  cases v with
  | true=>exact ha F _ G1 H1 fl F' H' P1 I1 eq _ _ fun f G2 h2 t2 s2 I2 P2 r2=>hQ f G2 h2 t2 (s1.pure.trans s2) I2 P2 r2
  | false=>exact hb F _ G1 H1 fl F' H' P1 I1 eq _ _ fun f G2 h2 t2 s2 I2 P2 r2=>hQ f G2 h2 t2 (s1.pure.trans s2) I2 P2 r2
theorem exs_nil:ExS B A T sc ns env (execs [] env) (fun F=>zH (.next,F)):=fun F s G H fl F' H' P I eq Q E hQ=>by
  obtain⟨e2,rfl⟩:=zF eq
  cases e2
  exact wpAny_pure (hQ _ G s.heap s.toks (Step.refl ..) I P trivial)
theorem exs_cons {x:Stmt}{r:List Stmt}{mx mr:AF→AM (Flo×AF)}(hx:ExS B A T sc ns env (exec x env) mx)(hr:ExS B A T sc ns env (execs r env) mr):ExS B A T sc ns env (execs (x::r) env) (fun F=>zZ (mx F) fun p=>ZU mr p):=fun F s G H fl F' H' P I eq Q E hQ=>by
  refine via fun R_ k_=>?_
  obtain⟨⟨f1,F1⟩,H1,e1,eq⟩:=zJ eq
  refine k_ ?_
  refine wpAny_execs_cons (hx F s G H f1 F1 H1 P I e1 _ _ fun f G1 h1 t1 s1 I1 P1 r1=>?_)
  cases f1 with
  | next =>
    cases f with
    | next=>exact hr F1 _ G1 H1 fl F' H' P1 I1 eq _ _ fun f G2 h2 t2 s2 I2 P2 r2=>hQ f G2 h2 t2 (s1.trans s2) I2 P2 r2
    | _=>exact r1.elim
  | ret v =>
    obtain⟨e2,rfl⟩:=zF eq
    cases e2
    cases f with
    | ret u=>exact hQ _ G1 h1 t1 s1 I1 P1 r1
    | _=>exact r1.elim
end
end
section
open PySem PySem.W PyProof.Rows PySem.Calls
section
variable {prog:Program}{w:World}{A:Around}{s:Shared}
theorem forLoopG {R:Result→Shared→Prop} {target it body orelse env}(I:Nat→Shared→Prop)
    (turn : ∀ n s,I n s→wpAny (model prog w) A (pyNext it) (fun r s₁=>match r with
      | none=>wpAny (model prog w) A (execs orelse env) (fun f s₃=>R (.ok f) s₃) (notedBy (model prog w) A env fun e s'=>R (.error e) s') s₁
      | some v=>wpAny (model prog w) A (letOwnedTupleGo target it v) (fun q_ s₁'=>wpAny (model prog w) A (assign target env v) (fun q_ s₂=>wpAny (model prog w) A (execs body env) (fun f s₃=>match f with
          | .next | .cont=>∃ m,m<n∧I m s₃
          | .brk=>R (.ok .next) s₃
          | .ret v=>R (.ok (.ret v)) s₃) (notedBy (model prog w) A env fun e s'=>R (.error e) s') s₂) (notedBy (model prog w) A env fun e s'=>R (.error e) s') s₁') (notedBy (model prog w) A env fun e s'=>R (.error e) s') s₁) (notedBy (model prog w) A env fun e s'=>R (.error e) s') s)
    (n:Nat) (h:I n s):codeAny (model prog w) A (.forLoop target it body orelse env) R s:=by
  refine codeAny_loop' rfl I (fun n s hI=>?_) n h
  show wpAny _ _ ((forTurn target it body orelse env).onRaise (fun x=>do noteFrame x env;theTreesLotGoes x)) _ _ s
  refine wpAny_noted ?_
  simp only[forTurn]
  refine wpAny_bind (wpAny_standAt (wpAny_bind (wpAny_onRaise (wpAny_mono (turn n s hI) (fun r s₁ h₁=>?_) fun q_ q_ h'=>wpAny_standAt h'))))
  cases r with
  | none=>exact wpAny_pure (.inr ⟨rfl,codeAny_block h₁⟩)
  | some v =>
    refine wpAny_bind (wpAny_mono h₁ (fun q_ s₁' h₁'=>?_) fun q_ q_ h'=>h')
    refine wpAny_bind (wpAny_mono h₁' (fun q_ s₂ h₂=>wpAny_bind (wpAny_mono h₂ (fun f s₃ h₃=>?_) fun q_ q_ h'=>h')) fun q_ q_ h'=>h')
    cases f with
    | next=>exact wpAny_pure (.inl ⟨rfl,h₃⟩)
    | cont=>exact wpAny_pure (.inl ⟨rfl,h₃⟩)
    | brk=>exact wpAny_pure h₃
    | ret v=>exact wpAny_pure h₃
end
section
variable {B:Base}{A:Around}{T:Tabs}{sc:Scope}{ns:List (List Nat)}{env:Env}
inductive LoopAt (B:Base)(Y:Addr→Prop)(P:AF→St→Heap→Prop)(g:AF→AM (Flo×AF))(r:(Flo×AF)×AH)(s:Shared)(G:St)(h:Heap):Shared→Prop
  | mk {F1:AF} {G1:St} {H1:AH} {h1:Heap} {t1:Tok} (st:Step B Y G h G1 h1) (I:Inv B G1 H1 h1) (p:P F1 G1 h1) (eq:g F1 H1=some r):LoopAt B Y P g r s G h { s with heap:=h1,toks:=t1 }
theorem ex_while {c:Expr}{a:List Stmt}{p:Pos}{mc:AF→AM AV}{ma:AF→AM (Flo×AF)}{W:Nat}(hc:∀ F,EvT B A T sc ns env F c (mc F))(ha:ExS B A T sc ns env (execs a env) ma) :
    ExS B A T sc ns env (exec (.While c a [] p) env) (fun F=>awhile (fun F=>zZ (mc F) fun v=>jW (wH v)) ma W F):=fun F s G H fl F' H' P I eq Q E hQ=>by
  refine wpAny_While (codeAny_whileLoop (fun n=>LoopAt B (Own sc env) (FrOK B T sc ns env) (awhile (fun F=>tst (mc F)) ma n) ((fl,F'),H') s G s.heap) (fun n s' hI=>?_) W (.mk (Step.refl ..) I P eq))
  clear eq I P
  refine via fun R_ k_=>?_
  obtain @⟨F1,G1,H1,h1,t1,s1,I1,P1,eq⟩:=hI
  refine k_ ?_
  cases n with
  | zero=>cases eq
  | succ n =>
    rw[awhile_succ] at eq
    obtain⟨b,H2,e1,eq⟩:=zJ eq
    refine hc F1 _ G1 H1 b H2 P1 I1 e1 _ _ fun v G2 h2 t2 s2 I2 P2 r2=>?_
    subst r2
    cases v with
    | false =>
      obtain⟨e2,rfl⟩:=zF eq
      cases e2
      exact wpAny_execs_nil (hQ _ G2 h2 t2 (s1.trans s2.pure) I2 P2 trivial)
    | true =>
      rw[cond_true] at eq
      refine via fun R_ k_=>?_
      obtain⟨⟨f1,F2⟩,H3,e3,eq⟩:=zJ eq
      refine k_ ?_
      refine ha F1 _ G2 H2 f1 F2 H3 P2 I2 e3 _ _ fun f G3 h3 t3 s3 I3 P3 r3=>?_
      cases f1 with
      | next =>
        cases f with
        | next=>exact⟨n,Nat.lt_succ_self n,.mk (s1.trans (s2.pure.trans s3)) I3 P3 eq⟩
        | _=>exact r3.elim
      | ret v =>
        obtain⟨e2,rfl⟩:=zF eq
        cases e2
        cases f with
        | ret u=>exact hQ _ G3 h3 t3 (s1.trans (s2.pure.trans s3)) I3 P3 r3
        | _=>exact r3.elim
noncomputable def ItersX (B:Base)(A:Around)(tg:Expr→Prop)(t:Sem Value)(G:St)(H:AH)(xs:List AV)(s:Shared)(h0:Heap):Prop :=
  ∀ (Q:Value→Shared→Prop) (E:Value→Shared→Prop),(∀ it X S G' h' tk',Step B Pure G s.heap G' h'→Inv B G' H h'→Itr B it tg X xs S→S 0 G' h'→(∀ a,X a→h0.get? a=none∧∃ o,h'.get? a=some o)→Q it { s with heap:=h',toks:=tk' }) →
    wpAny (model B.prog B.w) A t Q E s
theorem Iters.toX {tg:Expr→Prop}{t:Sem Value}{G:St}{H:AH}{xs:List AV}{s:Shared}{h0:Heap}(i:Iters B A tg t G H xs s)(k:∀ b o,h0.get? b=some o→∃ o',s.heap.get? b=some o'):ItersX B A tg t G H xs s h0 :=
  fun Q E hQ=>i Q E fun it X S G' h' tk' a b c d e=>hQ it X S G' h' tk' a b c d fun x hx=>⟨(by
    cases q:h0.get? x with
    | none=>rfl
    | some o =>
      obtain⟨o',y⟩:=k x o q
      rw[(e x hx).1] at y;cases y),(e x hx).2⟩
noncomputable def EvI (B:Base)(A:Around)(T:Tabs)(sc:Scope)(ns:List (List Nat))(env:Env)(F:AF)(tg:Expr→Prop)(e:Expr)(m:AM (List AV)):Prop :=
  ∀ (s:Shared) (G:St) (H:AH) (xs:List AV) (H':AH),FrOK B T sc ns env F G s.heap→Inv B G H s.heap→m H=some (xs,H') →
  ∀ (Q:Value→Shared→Prop) (E:Value→Shared→Prop),(∀ v G' h' tk',Step B Pure G s.heap G' h'→Inv B G' H' h'→FrOK B T sc ns env F G' h'→(∀ (A:Around) (s':Shared),A.handled=none→s'.heap=h'→ItersX B A tg (pyIter v) G' H' xs s' s.heap) →
    Q v { s with heap:=h',toks:=tk' })→wpAny (model B.prog B.w) A (eval e env) Q E s
theorem fold_pure {it:Expr}{x:Value}(h:noFold it=true):foldedSetIterable it env x=pure x:=by
  cases it <;> first | rfl | cases h
theorem ex_for {t it:Expr}{a:List Stmt}{p:Pos}{tg:Expr→Prop}{mi:AF→AM (List AV)}{mt:AV→AF→AM AF}{ma:AF→AM (Flo×AF)}(hA:A.handled=none)(hf:noFold it=true)(htg:tg t)(hi:∀ F,EvI B A T sc ns env F tg it (mi F))
    (ht:AsT B A T sc ns env t mt) (ha:ExS B A T sc ns env (execs a env) ma) :
    ExS B A T sc ns env (exec (.For t it a [] p) env) (fun F=>zZ (mi F) fun xs=>afor (fun x F=>zZ (mt x F) fun F'=>ma F') xs F):=fun F s G H fl F' H' P I eq Q E hQ=>by
  obtain⟨xs,H1,e1,eq⟩:=zJ eq
  refine wpAny_For (hi F s G H xs H1 P I e1 _ _ fun v G1 h1 t1 s1 I1 P1 r1=>?_) (fun x=>fold_pure hf)
  refine r1 A _ hA rfl _ _ fun iv X S G2 h2 t2 s2 I2 W S0 fr=>?_
  have P2:=P1.step s2
  have apart:∀ b,Own sc env b→¬ X b:=fun b hb hx=>by
    obtain⟨o,e⟩:=P.own b hb
    rw[(fr b hx).1] at e;cases e
  have apart':∀ b,X b→¬ Own sc env b:=fun b hx hb=>apart b hb hx
  have own:∀ {G G':St} {h h':Heap},Step B (Own sc env) G h G' h'→Step B (fun b=>Own sc env b∨X b) G h G' h':=fun st=>st.weak fun b q => .inl q
  have its:∀ {G G':St} {h h':Heap},Step B X G h G' h'→Step B (fun b=>Own sc env b∨X b) G h G' h':=fun st=>st.weak fun b q => .inr q
  have fin:∀ {G':St} {h':Heap},Step B (fun b=>Own sc env b∨X b) G2 h2 G' h'→Step B (Own sc env) G s.heap G' h':=fun st =>
    Step.shutTo (s1.pure.trans (s2.pure.trans st)) fun b hb=>(fr b hb).1
  refine forLoopG (fun n s'=>∃ k,n+k=xs.length∧LoopAt B (fun b=>Own sc env b∨X b) (fun F G h=>FrOK B T sc ns env F G h∧S k G h) (afor (fun x F=>zZ (mt x F) fun F'=>ma F') (xs.drop k)) ((fl,F'),H') s G2 h2 s') (fun n s' hI=>?_) xs.length ⟨0,rfl,.mk (Step.refl ..) I2 ⟨P2,S0⟩ eq⟩
  clear eq e1 P1 r1 S0 I1 I2 P2
  refine via fun R_ k_=>?_
  obtain⟨k,hk,@⟨F3,G3,H3,h3,t3,s3,I3,⟨P3,S3⟩,eq⟩⟩:=hI
  refine k_ ?_
  cases n with
  | zero =>
    have hk:k=xs.length:=(Nat.zero_add k).symm.trans hk
    subst hk
    rw[List.drop_length] at eq
    obtain⟨e2,rfl⟩:=zF eq
    cases e2
    refine W.done A _ G3 _ hA S3 I3 _ _ fun G4 h4 t4 s4 I4=>wpAny_execs_nil ?_
    exact hQ _ G4 h4 t4 (fin (s3.trans (its s4))) I4 (P3.stepX s4 apart) trivial
  | succ n =>
    have hlt:k<xs.length:=hk▸Nat.lt_add_of_pos_left (Nat.succ_pos n)
    have hx:xs[k]? = some xs[k]:=List.getElem?_eq_getElem hlt
    rw[List.drop_eq_getElem_cons hlt,afor_cons] at eq
    refine via fun R_ k_=>?_
    obtain⟨⟨f1,F5⟩,H5,e2,eq⟩:=zJ eq
    obtain⟨F4,H4,e3,e4⟩:=zJ e2
    refine k_ ?_
    refine W.item A k _ G3 H3 xs[k] hA hx S3 I3 _ _ fun v G4 h4 t4 s4 I4 r4 go=>?_
    refine go A t _ htg rfl _ _ fun G5 h5 t5 s5 I5 S5=>?_
    have P5:=(P3.stepX s4 apart).stepX s5 apart
    refine ht F3 _ G5 H3 xs[k] v F4 H4 P5 I5 (s5.rep r4) e3 _ _ fun G6 h6 t6 s6 I6 P6=>?_
    have S6:=W.stay (k+1) _ G5 H3 h5 G6 H4 h6 S5 I5 I6 s6 apart'
    refine ha F4 _ G6 H4 f1 F5 H5 P6 I6 e4 _ _ fun f G7 h7 t7 s7 I7 P7 r7=>?_
    have S7:=W.stay (k+1) _ G6 H4 h6 G7 H5 h7 S6 I6 I7 s7 apart'
    have all:=s3.trans ((its s4).trans ((its s5).trans ((own s6).trans (own s7))))
    cases f1 with
    | next =>
      cases f with
      | next=>exact⟨n,Nat.lt_succ_self n,k+1,(Nat.succ_add_eq_add_succ n k).symm.trans hk,.mk all I7 ⟨P7,S7⟩ eq⟩
      | _=>exact r7.elim
    | ret v =>
      obtain⟨e9,rfl⟩:=zF eq
      cases e9
      cases f with
      | ret u=>exact hQ _ G7 h7 t7 (fin all) I7 P7 r7
      | _=>exact r7.elim
theorem ex_assign {t e:Expr}{p:Pos}{me:AF→AM AV}{mt:AV→AF→AM AF}(hc:notComp e=true)(hs:isStar t=false)(hw:swappedStores [t] e env=pure none)
    (he:∀ F,EvE B A T sc ns env F e (me F)) (ht:AsT B A T sc ns env t mt) :
    ExS B A T sc ns env (exec (.Assign [t] e p) env) (fun F=>zZ (me F) fun v=>zZ (mt v F) fun F'=>zH (.next,F')):=fun F s G H fl F' H' P I eq Q E hQ=>by
  obtain⟨x,H1,e1,eq⟩:=zJ eq
  obtain⟨F1,H2,e2,eq⟩:=zJ eq
  obtain⟨e3,rfl⟩:=zF eq
  cases e3
  have hsw:swapsWithSole [t] e p.line env=pure false:=by
    show swapsWith e (some t) p.line env=pure false
    unfold swapsWith
    cases e <;> first | rfl | cases hc
  refine wpAny_Assign_stores (he F s G H x H1 P I e1 _ _ fun v G1 h1 t1 s1 I1 P1 r1=>?_) hsw hw
  rw[assignEach_cons hs]
  exact ht F _ G1 H1 x v F' _ P1 I1 r1 e2 _ _ fun G2 h2 t2 s2 I2 P2=>hQ _ G2 h2 t2 (s1.pure.trans s2) I2 P2 trivial
end
end
section
open PySem PySem.W PyProof.Rows PySem.Calls
structure Prs (prog:Program)(w:World)(A:Around)(I:Addr)(fp wr:List Addr)(n:Nat)(P:Nat→Value→Value→Prop)(W:Nat→Heap→Prop)(M:Nat→Addr→Heap→Prop):Prop where
  frame:∀ i h h',W i h→(∀ b∈fp,∀ o,h.get? b=some o→h'.get? b=some o)→W i h'
  liveW:∀ i h,W i h→∀ b∈wr,∃ o,h.get? b=some o
  liveM:∀ i T h,M i T h→∀ b∈wr,∃ o,h.get? b=some o
  item:∀ i (s:Shared) (Q:Option Value→Shared→Prop) (E:Value→Shared→Prop),i<n→W i s.heap →
    (∀ v u h' tk,P i v u→h'.get? s.heap.objs.size=some (tplO #[v,u] 0)→M i s.heap.objs.size h'→(∀ b o,b ∉ wr→s.heap.get? b=some o→h'.get? b=some o)→Q (some (.ref s.heap.objs.size)) { s with heap:=h',toks:=tk }) →
    wpAny (model prog w) A (pyNext (.ref I)) Q E s
  done:∀ (s:Shared) (Q:Option Value→Shared→Prop) (E:Value→Shared→Prop),W n s.heap →
    (∀ h' tk,(∀ b o,b ∉ wr→s.heap.get? b=some o→h'.get? b=some o)→Q none { s with heap:=h',toks:=tk })→wpAny (model prog w) A (pyNext (.ref I)) Q E s
  self:∀ i (s:Shared) (Q:Value→Shared→Prop) (E:Value→Shared→Prop),W i s.heap→Q (.ref I) s→wpAny (model prog w) A (pyIter (.ref I)) Q E s
noncomputable def TupTg (t:Expr):Prop:=∃ elts k pos,t = .Tuple elts k pos
section
variable {B:Base}
set_option tactic.hygienic true in
theorem Itr.ofPrs {I:Addr}{fp wr:List Addr}{n:Nat}{P:Nat→Value→Value→Prop}{W:Nat→Heap→Prop}{M:Nat→Addr→Heap→Prop}{xs:List AV}
    (w:∀ A:Around,A.handled=none→Prs B.prog B.w A I fp wr n P W M)
    (go:∀ (A:Around) (elts:List Expr) (k:Nat) (pos:Pos) i T (s:Shared) (Q:Unit→Shared→Prop) (E:Value→Shared→Prop),M i T s.heap →
      (∀ h',W (i+1) h'→(∀ b o,b ∉ wr→s.heap.get? b=some o→h'.get? b=some o)→Q () { s with heap:=h' }) →
      wpAny (model B.prog B.w) A (letOwnedTupleGo (.Tuple elts k pos) (.ref I) (.ref T)) Q E s) (hn:xs.length=n)
    {R:St→Prop} (hR:∀ (G G':St),R G→(∀ b o,G.g b=some o→G'.g b=some o)→(∀ (i:Nat) p,G.al[i]? = some p→G'.al[i]? = some p)→R G')
    (hP:∀ (G:St) (i:Nat) (x:AV) (v u:Value),R G→xs[i]? = some x→P i v u→∃ y z,x = .tup [y,z]∧Rep B G y v∧Rep B G z u):Itr B (.ref I) TupTg (· ∈ wr) xs fun k G h=>W k h∧Wst B fp wr R G h where
  stay := fun k Y G H h G' H' h' ⟨a,b⟩ I I' st hY=>by
    have keep:∀ b∈fp,∀ o,h.get? b=some o→h'.get? b=some o:=fun c hc o e=>by
      by_cases q:c∈wr
      · obtain⟨x1,x2,x3,x4⟩:=b.own c q
        exact st.keep c o (hY c q) x1 x2 e
      · obtain⟨o',x⟩:=b.fix c hc q
        have e1:=I.sub _ _ x
        rw[e] at e1;cases e1
        exact I'.sub _ _ (st.mono _ _ x)
    refine⟨(w {} rfl).frame k h h' a keep,fun c hc=>?_,fun c hc q=>?_,?_⟩
    · refine via fun R_ k_=>?_
      obtain⟨x1,x2,x3,o,x4⟩:=b.own c hc
      refine k_ ?_
      exact⟨not_new st x1 (hY c hc) x4,x2,(st.ext c o x4 (hY c hc)).trans x3,o,st.keep c o (hY c hc) x1 x2 x4⟩
    · obtain⟨o,x⟩:=b.fix c hc q
      exact⟨o,st.mono _ _ x⟩
    · exact hR G G' b.rel st.mono fun i p e=>st.alAt e
  item :=fun A k s G H x hA hx ⟨a,b⟩ I Q E hQ=>by
    have hk:k<n:=by rw[←hn];exact(List.getElem?_eq_some_iff.mp hx).1
    refine(w A hA).item k s Q E hk a fun v u h' tk hv hT hM kp=>?_
    have I1:=I.own (fun c hc=>⟨(b.own c hc).1,(b.own c hc).2.1,(b.own c hc).2.2.1⟩) kp
    have gT:G.g s.heap.objs.size=none:=I.gNew (Nat.le_refl _)
    have I2:=I1.freeze hT (fun m=>absurd (I.lt m) (Nat.lt_irrefl _)) (fun m=>absurd (I.tabLt m) (Nat.lt_irrefl _)) fun o' e=>by rw[gT] at e;cases e
    have mono:∀ b o,G.g b=some o→(G.put s.heap.objs.size (tplO #[v,u] 0)).g b=some o:=fun b o e=>by
      simp only[St.put]
      split
      · rename_i q;subst q;rw[gT] at e;cases e
      · exact e
    have st:Step B (· ∈ wr) G s.heap (G.put s.heap.objs.size (tplO #[v,u] 0)) h':=by
      refine⟨fun b o hb e=>⟨o,kp b o hb e⟩,mono,fun b o e hb=>?_,⟨[],(List.append_nil _).symm,fun q_ hm=>(List.not_mem_nil hm).elim⟩,fun b o hb q_ q_ e=>kp b o hb e⟩
      simp only[St.put]
      rw[if_neg (Nat.ne_of_lt (Heap.lt_size e))]
    have R':=hR G _ b.rel mono fun q_ q_ e=>e
    obtain⟨y,z,rfl,ry,rz⟩:=hP _ k x v u R' hx hv
    refine hQ _ _ h' tk st I2 ⟨_,#[v,u],0,rfl,St.put_at ..,v,[u],rfl,ry,u,[],rfl,rz,rfl⟩ ?_
    rintro A' _ s' ⟨elts,kk,pos,rfl⟩ rfl Q' E' hQ'
    refine go A' elts kk pos k _ s' Q' E' hM fun h2 hW kp2=>?_
    have own2:∀ c∈wr,c ∉ (G.put s.heap.objs.size (tplO #[v,u] 0)).adr∧c ∉ B.tabP∧(G.put s.heap.objs.size (tplO #[v,u] 0)).g c=none:=fun c hc=>by
      refine via fun R_ k_=>?_
      obtain⟨x1,x2,x3,o,x4⟩:=b.own c hc
      refine k_ ?_
      refine⟨x1,x2,?_⟩
      simp only[St.put]
      rw[if_neg (Nat.ne_of_lt (Heap.lt_size x4))];exact x3
    refine hQ' _ h2 s'.toks (Step.own kp2) (I2.own own2 kp2) ⟨hW,fun c hc=>⟨(own2 c hc).1,(own2 c hc).2.1,(own2 c hc).2.2,(w A hA).liveW _ _ hW c hc⟩,fun c hc q=>?_,R'⟩
    obtain⟨o,x⟩:=b.fix c hc q
    exact⟨o,mono _ _ x⟩
  self:=fun A k s G hA ⟨a,b⟩ Q E hQ=>(w A hA).self k s Q E a hQ
  done:=fun A s G H hA ⟨a,b⟩ I Q E hQ=>by
    rw[hn] at a
    refine(w A hA).done s Q E a fun h' tk kp=>?_
    exact hQ G h' tk (Step.own kp) (I.own (fun c hc=>⟨(b.own c hc).1,(b.own c hc).2.1,(b.own c hc).2.2.1⟩) kp)
end
section
variable {prog:Program}{w:World}{A:Around}{E:Value→Shared→Prop}{s:Shared}
noncomputable abbrev Zap (z TI TO i1 i2:Addr):Prop:=ZipApart z TI TO i1 i2 TI TI
theorem zipD_next {z TI TO i1 i2:Addr}{n1 n2 k:Nat}{P1 P2:Nat→Value→Prop}{S1 S2:Nat→Heap→Prop}{a b:Value}{Q:Value→Shared→Prop}(D:Zap z TI TO i1 i2)
    (D1:Draws prog w A i1 [i1] n1 P1 S1) (D2:Draws prog w A i2 [i2] n2 P2 S2) (h1:k<n1) (h2:k<n2)
    (hz:IsZip s.heap z TI TO .none) (hTI:IsPair s.heap TI (.ref i1) (.ref i2)) (hTO:IsPair s.heap TO a b) (s1:S1 k s.heap) (s2:S2 k s.heap)
    (hQ:∀ x y h' tk,P1 k x→P2 k y→IsZip h' z TI TO (rawInt s.heap.objs.size)→IsPair h' TO x y→S1 (k+1) h'→S2 (k+1) h'→IsPair h' s.heap.objs.size x y →
      (∀ c o,c≠z→c≠TO→c≠i1→c≠i2→s.heap.get? c=some o→h'.get? c=some o)→Q (.ref s.heap.objs.size) { s with heap:=h',toks:=tk }) :
    wpAny (model prog w) A (Builtin.«zip.__next__» ⟨[.ref z],[]⟩) (fun fin s'=>∃ v,fin = .done (.ret v)∧Q v s') E s:=by
  have fr1:∀ {i:Nat} {h h':Heap},S1 i h→(∀ o,h.get? i1=some o→h'.get? i1=some o)→S1 i h':=fun st hk=>D1.frame _ _ _ st fun c hc o e=>by
    rw[List.mem_singleton] at hc;subst hc;exact hk o e
  have fr2:∀ {i:Nat} {h h':Heap},S2 i h→(∀ o,h.get? i2=some o→h'.get? i2=some o)→S2 i h':=fun st hk=>D2.frame _ _ _ st fun c hc o e=>by
    rw[List.mem_singleton] at hc;subst hc;exact hk o e
  show wpAny _ _ (field (.ref z) 2 >>= _) _ _ _
  refine wpAny_bind (wpAny_field hz rfl (x := .bool false) rfl ?_)
  show wpAny _ _ (field (.ref z) 3 >>= _) _ _ _
  refine wpAny_bind (wpAny_field hz rfl (x := .ref TI) rfl (wpAny_bind (wpAny_seqItems hTI rfl ?_)))
  show wpAny _ _ (Builtin.SmallTypes.ownedTupleIsFree (.ref z) >>= _) _ _ _
  refine wpAny_bind ?_
  unfold Builtin.SmallTypes.ownedTupleIsFree
  refine wpAny_bind (wpAny_field hz rfl (x := .none) rfl (wpAny_pure ?_))
  simp only[if_true]
  refine wpAny_bind (wpAny_rule (wpAny_bind (wpAny_field hz rfl (x := .ref TO) rfl ?_)))
  refine wpAny_bind (wpAny_setField_rec hz (by simp) fun g1 z1 q1=>?_)
  replace z1:IsZip g1 z TI TO .ellipsis:=z1
  refine wpAny_bind ?_
  simp only[List.zipIdx_cons,List.zipIdx_nil,List.forIn_cons,List.forIn_nil]
  refine wpAny_bind (wpAny_bind (wpAny_onRaise ?_))
  show wpAny _ _ (Builtin.SmallTypes.nextOf (.ref i1) >>= _) _ _ _
  refine wpAny_bind (D1.item k _ _ _ h1 (fr1 s1 fun o e=>q1.extBut _ _ D.i1z e) fun x g2 t2 px s1' q2=>wpAny_pure ?_)
  replace q2:Heap.SameBut i1 g1 g2:=q2
  have o2:IsPair g2 TO a b:=q2.extBut _ _ D.TOi1 (q1.extBut _ _ D.TOz hTO)
  refine wpAny_bind (wpAny_seqItems o2 rfl (wpAny_bind (wpAny_updateSeq_pair o2 fun g3 o3 q3=>?_)))
  replace o3:IsPair g3 TO x b:=o3
  replace q3:Heap.SameBut TO g2 g3:=q3
  refine wpAny_bind (wpAny_letGo (wpAny_pure (wpAny_bind (wpAny_bind (wpAny_onRaise ?_)))))
  show wpAny _ _ (Builtin.SmallTypes.nextOf (.ref i2) >>= _) _ _ _
  refine wpAny_bind (D2.item k _ _ _ h2 (fr2 s2 fun o e=>q3.extBut _ _ D.TOi2.symm (q2.extBut _ _ D.i12.symm (q1.extBut _ _ D.i2z e))) fun y g4 t4 py s2' q4=>wpAny_pure ?_)
  replace q4:Heap.SameBut i2 g3 g4:=q4
  have o4:IsPair g4 TO x b:=q4.extBut _ _ D.TOi2 o3
  refine wpAny_bind (wpAny_seqItems o4 rfl (wpAny_bind (wpAny_updateSeq_pair o4 fun g5 o5 q5=>?_)))
  replace o5:IsPair g5 TO x y:=o5
  replace q5:Heap.SameBut TO g4 g5:=q5
  refine wpAny_bind (wpAny_letGo (wpAny_pure (wpAny_pure (wpAny_bind (wpAny_seqItems o5 rfl (wpAny_bind (wpAny_newTuple ?_)))))))
  have sz:g5.objs.size=s.heap.objs.size:=by rw[q5.1,q4.1,q3.1,q2.1,q1.1]
  have z5:IsZip g5 z TI TO .ellipsis:=q5.extBut _ _ D.TOz.symm (q4.extBut _ _ D.i2z.symm (q3.extBut _ _ D.TOz.symm (q2.extBut _ _ D.i1z.symm z1)))
  have zl:z<g5.objs.size:=Heap.lt_size z5
  show wpAny _ _ (Builtin.SmallTypes.ownedTupleHandOut (.ref z) (.ref g5.objs.size) >>= _) _ _ _
  refine wpAny_bind ?_
  unfold Builtin.SmallTypes.ownedTupleHandOut
  have z6:IsZip (g5.push { cls := .type "tuple",data := .seq #[x,y] }) z TI TO .ellipsis:=Heap.get?_push_of_some _ z5
  refine wpAny_bind (wpAny_setField_rec z6 (by simp) fun g7 z7 q7=>?_)
  replace z7:IsZip g7 z TI TO (rawInt g5.objs.size):=z7
  refine wpAny_setField_rec z7 (by simp) fun g8 z8 q8=>?_
  replace z8:IsZip g8 z TI TO (rawInt g5.objs.size):=z8
  have up:∀ c o,c≠z→g5.get? c=some o→g8.get? c=some o:=fun c o c1 e=>q8.extBut _ _ c1 (q7.extBut _ _ c1 (Heap.get?_push_of_some _ e))
  have T8:IsPair g8 g5.objs.size x y:=q8.extBut _ _ (Nat.ne_of_gt zl) (q7.extBut _ _ (Nat.ne_of_gt zl) (Heap.get?_push_size _ rfl))
  rw[sz] at z8 T8
  refine wpAny_pure ⟨_,rfl,?_⟩
  show Q (.ref g5.objs.size) _
  rw[sz]
  exact hQ x y g8 _ px py z8 (up _ _ D.TOz o5) (fr1 s1' fun o e=>up _ o D.i1z (q5.extBut _ _ D.TOi1.symm (q4.extBut _ _ D.i12 (q3.extBut _ _ D.TOi1.symm e))))
    (fr2 s2' fun o e=>up _ o D.i2z (q5.extBut _ _ D.TOi2.symm e)) T8 fun c o c1 c2 c3 c4 e=>up c o c1 (q5.extBut _ _ c2 (q4.extBut _ _ c4 (q3.extBut _ _ c2 (q2.extBut _ _ c3 (q1.extBut _ _ c1 e)))))
theorem zipD_end {z TI TO i1 i2:Addr}{n1 n2 k:Nat}{P1 P2:Nat→Value→Prop}{S1 S2:Nat→Heap→Prop}{a b:Value}{Q:Fin→Shared→Prop}(D:Zap z TI TO i1 i2)
    (D1:Draws prog w A i1 [i1] n1 P1 S1) (D2:Draws prog w A i2 [i2] n2 P2 S2) (hk:k=min n1 n2)
    (hz:IsZip s.heap z TI TO .none) (hTI:IsPair s.heap TI (.ref i1) (.ref i2)) (hTO:IsPair s.heap TO a b) (s1:S1 k s.heap) (s2:S2 k s.heap)
    (hE:∀ h' tk e,(∀ c o,c≠z→c≠TO→c≠i1→c≠i2→s.heap.get? c=some o→h'.get? c=some o)→(∃ o,h'.get? e=some o∧o.cls = .type "StopIteration")→E (.ref e) { s with heap:=h',toks:=tk }) :
    wpAny (model prog w) A (Builtin.«zip.__next__» ⟨[.ref z],[]⟩) Q E s:=by
  have fr1:∀ {i:Nat} {h h':Heap},S1 i h→(∀ o,h.get? i1=some o→h'.get? i1=some o)→S1 i h':=fun st hk=>D1.frame _ _ _ st fun c hc o e=>by
    rw[List.mem_singleton] at hc;subst hc;exact hk o e
  have fr2:∀ {i:Nat} {h h':Heap},S2 i h→(∀ o,h.get? i2=some o→h'.get? i2=some o)→S2 i h':=fun st hk=>D2.frame _ _ _ st fun c hc o e=>by
    rw[List.mem_singleton] at hc;subst hc;exact hk o e
  show wpAny _ _ (field (.ref z) 2 >>= _) _ _ _
  refine wpAny_bind (wpAny_field hz rfl (x := .bool false) rfl ?_)
  show wpAny _ _ (field (.ref z) 3 >>= _) _ _ _
  refine wpAny_bind (wpAny_field hz rfl (x := .ref TI) rfl (wpAny_bind (wpAny_seqItems hTI rfl ?_)))
  show wpAny _ _ (Builtin.SmallTypes.ownedTupleIsFree (.ref z) >>= _) _ _ _
  refine wpAny_bind ?_
  unfold Builtin.SmallTypes.ownedTupleIsFree
  refine wpAny_bind (wpAny_field hz rfl (x := .none) rfl (wpAny_pure ?_))
  simp only[if_true]
  refine wpAny_bind (wpAny_rule (wpAny_bind (wpAny_field hz rfl (x := .ref TO) rfl ?_)))
  refine wpAny_bind (wpAny_setField_rec hz (by simp) fun g1 z1 q1=>?_)
  replace z1:IsZip g1 z TI TO .ellipsis:=z1
  refine wpAny_bind ?_
  simp only[List.zipIdx_cons,List.zipIdx_nil,List.forIn_cons,List.forIn_nil]
  refine wpAny_bind (wpAny_bind (wpAny_onRaise ?_))
  show wpAny _ _ (Builtin.SmallTypes.nextOf (.ref i1) >>= _) _ _ _
  have s1q:=fr1 s1 fun o e=>q1.extBut _ _ D.i1z e
  by_cases e1:k=n1
  · subst e1
    refine wpAny_bind (D1.done _ _ _ s1q fun g2 e q2 he=>?_)
    obtain⟨oe,hoe,hce⟩:=he
    have z2:IsZip g2 z TI TO .ellipsis:=q2 _ _ D.i1z.symm z1
    have hez:e≠z:=fun x=>by subst x;rw[z2] at hoe;cases hoe;simp at hce
    refine wpAny_setField_rec z2 (by simp) fun g3 q_ q3=>hE g3 s.toks e (fun c o c1 q_ c3 q_ x=>q3.extBut _ _ c1 (q2 _ _ c3 (q1.extBut _ _ c1 x))) ⟨oe,q3.extBut _ _ hez hoe,hce⟩
  · have e2:k=n2:=by omega
    have l1:k<n1:=by omega
    refine wpAny_bind (D1.item k _ _ _ l1 s1q fun x g2 t2 px s1' q2=>wpAny_pure ?_)
    replace q2:Heap.SameBut i1 g1 g2:=q2
    have o2:IsPair g2 TO a b:=q2.extBut _ _ D.TOi1 (q1.extBut _ _ D.TOz hTO)
    refine wpAny_bind (wpAny_seqItems o2 rfl (wpAny_bind (wpAny_updateSeq_pair o2 fun g3 o3 q3=>?_)))
    replace q3:Heap.SameBut TO g2 g3:=q3
    refine wpAny_bind (wpAny_letGo (wpAny_pure (wpAny_bind (wpAny_bind (wpAny_onRaise ?_)))))
    show wpAny _ _ (Builtin.SmallTypes.nextOf (.ref i2) >>= _) _ _ _
    have s2q:=fr2 s2 fun o e=>q3.extBut _ _ D.TOi2.symm (q2.extBut _ _ D.i12.symm (q1.extBut _ _ D.i2z e))
    subst e2
    refine wpAny_bind (D2.done _ _ _ s2q fun g4 e q4 he=>?_)
    obtain⟨oe,hoe,hce⟩:=he
    have z4:IsZip g4 z TI TO .ellipsis:=q4 _ _ D.i2z.symm (q3.extBut _ _ D.TOz.symm (q2.extBut _ _ D.i1z.symm z1))
    have hez:e≠z:=fun x=>by subst x;rw[z4] at hoe;cases hoe;simp at hce
    refine wpAny_setField_rec z4 (by simp) fun g5 q_ q5=>hE g5 _ e (fun c o c1 c2 c3 c4 x=>q5.extBut _ _ c1 (q4 _ _ c4 (q3.extBut _ _ c2 (q2.extBut _ _ c3 (q1.extBut _ _ c1 x))))) ⟨oe,q5.extBut _ _ hez hoe,hce⟩
end
end
section
open PySem PySem.W PyProof.Rows PySem.Calls
noncomputable abbrev strIt (x:Str)(t:Tok):Obj:={ cls := .type (strIterType x),data := .fields #[.str x t,.int 0 0] }
noncomputable abbrev zs1 (h:Heap)(x:Str)(t:Tok):Heap:=h.push (strIt x t)
noncomputable abbrev zs2 (h:Heap)(x y:Str)(t u:Tok):Heap:=(zs1 h x t).push (strIt y u)
noncomputable abbrev zs3 (h:Heap)(x y:Str)(t u:Tok):Heap:=(zs2 h x y t u).push { cls := .type "tuple",data := .seq #[.ref h.objs.size,.ref (zs1 h x t).objs.size] }
noncomputable abbrev zs4 (h:Heap)(x y:Str)(t u:Tok):Heap:=(zs3 h x y t u).push { cls := .type "tuple",data := .seq #[.none,.none] }
noncomputable abbrev zs5 (h:Heap)(x y:Str)(t u:Tok):Heap:=(zs4 h x y t u).push { cls := .type "zip",data := .fields #[.none,.bool false,.bool false,.ref (zs2 h x y t u).objs.size,.ref (zs3 h x y t u).objs.size] }
set_option maxHeartbeats 2000000 in
theorem zip_newS (x y:Str)(t u:Tok) :
    Meets (Builtin.«zip.__new__» ⟨[.type "zip",.str x t,.str y u],[]⟩) (fun q_ R s=>R (.ok (.ret (.ref (zs4 s.heap x y t u).objs.size))) { s with heap:=zs5 s.heap x y t u }) :=
  .of_wp fun prog w A R s h=>by
    refine via fun R_ k_=>?_
    obtain⟨hp,g,d,tk,os⟩:=s
    refine k_ ?_
    have hsub:=sub_zip
    wp_walk using wpAny_pyIter_strU
    exact⟨_,rfl,h⟩
section
variable {prog:Program}{w:World}{A:Around}{E:Value→Shared→Prop}{s:Shared}
theorem call_zipS {x y:Str}{t u:Tok}{Q:Value→Shared→Prop}
    (h : ∀ h',IsZip h' (s.heap.objs.size+4) (s.heap.objs.size+2) (s.heap.objs.size+3) .none→IsPair h' (s.heap.objs.size+2) (.ref s.heap.objs.size) (.ref (s.heap.objs.size+1)) →
      IsPair h' (s.heap.objs.size+3) .none .none→h'.get? s.heap.objs.size=some (strIt x t)→h'.get? (s.heap.objs.size+1)=some (strIt y u) →
      (∀ c o,s.heap.get? c=some o→h'.get? c=some o)→Q (.ref (s.heap.objs.size+4)) { s with heap:=h' }) :
    wpAny (model prog w) A (call (.type "zip") [.str x t,.str y u]) Q E s:=by
  refine callType_new F.called_zip (by decide) (F.typeCall_zip_2 _ _) (F.newCall_zip_2 _ _) (fun obj=>F.args_object_init_3 obj _ _) F.entry_zip_new (zip_newS x y t u) ?_
  have z1:(zs1 s.heap x t).objs.size=s.heap.objs.size+1:=Heap.size_push ..
  have z2:(zs2 s.heap x y t u).objs.size=s.heap.objs.size+2:=by rw[Heap.size_push,z1]
  have z3:(zs3 s.heap x y t u).objs.size=s.heap.objs.size+3:=by rw[Heap.size_push,z2]
  have z4:(zs4 s.heap x y t u).objs.size=s.heap.objs.size+4:=by rw[Heap.size_push,z3]
  have g5:(zs5 s.heap x y t u).get? (zs4 s.heap x y t u).objs.size=some _:=Heap.get?_push_size _ rfl
  have g4:(zs5 s.heap x y t u).get? (zs3 s.heap x y t u).objs.size=some _:=Heap.get?_push_of_some _ (Heap.get?_push_size _ rfl)
  have g3:(zs5 s.heap x y t u).get? (zs2 s.heap x y t u).objs.size=some _:=Heap.get?_push_of_some _ (Heap.get?_push_of_some _ (Heap.get?_push_size _ rfl))
  have g2:(zs5 s.heap x y t u).get? (zs1 s.heap x t).objs.size=some _:=Heap.get?_push_of_some _ (Heap.get?_push_of_some _ (Heap.get?_push_of_some _ (Heap.get?_push_size _ rfl)))
  have g1:(zs5 s.heap x y t u).get? s.heap.objs.size=some _:=Heap.get?_push_of_some _ (Heap.get?_push_of_some _ (Heap.get?_push_of_some _ (Heap.get?_push_of_some _ (Heap.get?_push_size _ rfl))))
  show _∧_
  rw[z2,z3,z4] at g5
  rw[z1,z2] at g3
  rw[z3] at g4
  rw[z1] at g2
  rw[z4]
  exact ⟨⟨_,g5,rfl⟩,h _ g5 g3 g4 g1 g2 fun c o x =>
    Heap.get?_push_of_some _ (Heap.get?_push_of_some _ (Heap.get?_push_of_some _ (Heap.get?_push_of_some _ (Heap.get?_push_of_some _ x))))⟩
set_option tactic.hygienic true in
theorem drawsStr (hh:A.handled=none)(it:Addr)(x:Str)(t:Tok):Draws prog w A it [it] x.cps.size (fun i v=>SignAt x i v) (fun i h=>h.IsStrIter it (strIterType x) x t i):=by
  by_cases ha:strIterType x = "str_ascii_iterator"
  · rw[ha]
    have D:=Draws.strAscii (prog:=prog) (w:=w) hh it x t
    exact⟨D.live,D.frame,fun i s Q E hi st hQ=>D.item i s Q E hi st fun v h' tk ⟨c,u,e,e'⟩ st' sb=>hQ v h' tk ⟨c,u,e,e'⟩ st' sb,D.done⟩
  · have hb:strIterType x = "str_iterator" :=by
      unfold strIterType at ha ⊢
      split at ha
      · exact absurd rfl ha
      · rename_i q;rw[if_neg q]
    rw[hb]
    have D:=Draws.strWide (prog:=prog) (w:=w) hh it x t
    exact⟨D.live,D.frame,fun i s Q E hi st hQ=>D.item i s Q E hi st fun v h' tk ⟨c,u,e,e'⟩ st' sb=>hQ v h' tk ⟨c,u,e,e'⟩ st' sb,D.done⟩
end
theorem Prs.zip {prog:Program}{w:World}{A:Around}(hh:A.handled=none){z TI TO i1 i2:Addr}(D:Zap z TI TO i1 i2)(x y:Str)(t u:Tok) :
    Prs prog w A z [z,TI,TO,i1,i2] [z,TO,i1,i2] (min x.cps.size y.cps.size) (fun i v v'=>SignAt x i v∧SignAt y i v')
      (fun i h=>IsZip h z TI TO .none∧IsPair h TI (.ref i1) (.ref i2)∧(∃ a b,IsPair h TO a b)∧h.IsStrIter i1 (strIterType x) x t i∧h.IsStrIter i2 (strIterType y) y u i)
      (fun i T h=>IsZip h z TI TO (rawInt T)∧IsPair h TI (.ref i1) (.ref i2)∧(∃ a b,IsPair h TO a b)∧h.IsStrIter i1 (strIterType x) x t (i+1)∧h.IsStrIter i2 (strIterType y) y u (i+1)) where
  frame:=fun i h h' ⟨hz,hTI,⟨a,b,hTO⟩,⟨o1,h1,r1⟩,⟨o2,h2,r2⟩⟩ hk =>
    ⟨hk z (by simp) _ hz,hk TI (by simp) _ hTI,⟨a,b,hk TO (by simp) _ hTO⟩,⟨o1,hk i1 (by simp) _ h1,r1⟩,⟨o2,hk i2 (by simp) _ h2,r2⟩⟩
  liveW:=fun i h ⟨hz,hTI,⟨a,b,hTO⟩,⟨o1,h1,_⟩,⟨o2,h2,_⟩⟩ c hc=>by
    simp only[List.mem_cons,List.not_mem_nil,or_false] at hc
    rcases hc with rfl | rfl | rfl | rfl
    · exact⟨_,hz⟩
    · exact⟨_,hTO⟩
    · exact⟨_,h1⟩
    · exact⟨_,h2⟩
  liveM:=fun i T h ⟨hz,hTI,⟨a,b,hTO⟩,⟨o1,h1,_⟩,⟨o2,h2,_⟩⟩ c hc=>by
    simp only[List.mem_cons,List.not_mem_nil,or_false] at hc
    rcases hc with rfl | rfl | rfl | rfl
    · exact⟨_,hz⟩
    · exact⟨_,hTO⟩
    · exact⟨_,h1⟩
    · exact⟨_,h2⟩
  item := fun i s Q E hi ⟨hz,hTI,⟨a,b,hTO⟩,h1,h2⟩ hQ=>by
    have hT:s.TypeIs (.ref z) "zip" :=⟨_,hz,rfl⟩
    unfold pyNext
    refine wpAny_bind (wpAny_attempt (wpAny_callSpecial?_slot (name:=Str.ofString "__next__") hT F.slot_zip_next
      (wpAny_call_entry F.slot_zip_next hT F.entry_zip_next (zipD_next D (drawsStr (A:=A.in1) hh i1 x t) (drawsStr (A:=A.in1) hh i2 y u) (by omega) (by omega) hz hTI hTO h1 h2
        fun v v' h' tk p1 p2 a1 a2 a3 a4 a5 hk=>wpAny_pure ?_) (F.args_zip_next_1 _))))
    exact hQ v v' h' tk ⟨p1,p2⟩ a5 ⟨a1,hk _ _ D.TIz D.TITO D.TIi1 D.TIi2 hTI,⟨_,_,a2⟩,a3,a4⟩ fun c o hc e =>
      hk c o (fun q=>hc (by simp[q])) (fun q=>hc (by simp[q])) (fun q=>hc (by simp[q])) (fun q=>hc (by simp[q])) e
  done :=fun s Q E ⟨hz,hTI,⟨a,b,hTO⟩,h1,h2⟩ hQ=>by
    have hT:s.TypeIs (.ref z) "zip" :=⟨_,hz,rfl⟩
    unfold pyNext
    refine wpAny_bind (wpAny_attempt (wpAny_callSpecial?_slot (name:=Str.ofString "__next__") hT F.slot_zip_next
      (wpAny_call_entry F.slot_zip_next hT F.entry_zip_next (zipD_end D (drawsStr (A:=A.in1) hh i1 x t) (drawsStr (A:=A.in1) hh i2 y u) rfl hz hTI hTO h1 h2 fun h' tk e hk he=>?_) (F.args_zip_next_1 _))))
    obtain⟨o,ho,hc⟩:=he
    refine wpAny_bind (wpAny_isInstance (T := "StopIteration") (b:=true) ⟨o,ho,hc⟩ isSubtype_stop ?_)
    exact wpAny_pure (hQ _ _ fun c o hc e=>hk c o (fun q=>hc (by simp[q])) (fun q=>hc (by simp[q])) (fun q=>hc (by simp[q])) (fun q=>hc (by simp[q])) e)
  self:=fun i s Q E hst hQ=>wpAny_pyIter_zip hst.1 hQ
theorem Prs.enum {prog:Program}{w:World}{A:Around}(hh:A.handled=none){e it l:Addr}(hei:e≠it)(hle:l≠e)(hli:l≠it)(items:Array Value) :
    Prs prog w A e [e,it,l] [e,it] items.size (fun i v u=>(∃ t,v = .int i t)∧items[i]? = some u)
      (fun i h=>(∃ old,IsEnum h e it i old)∧h.IsListIter it l i∧h.IsList l items)
      (fun i T h=>(∃ x,IsEnumOut h e it ((i:Int)+1) x T)∧h.IsListIter it l (i+1)∧h.IsList l items) where
  frame:=fun i h h' ⟨⟨old,he⟩,hit,hl⟩ hk=>⟨⟨old,hk e (by simp) _ he⟩,hit.at fun o x=>hk it (by simp) o x,hl.at fun o x=>hk l (by simp) o x⟩
  liveW:=fun i h ⟨⟨old,he⟩,⟨o,ho,_⟩,_⟩ c hc=>by
    simp only[List.mem_cons,List.not_mem_nil,or_false] at hc
    rcases hc with rfl | rfl
    · exact⟨_,he⟩
    · exact⟨_,ho⟩
  liveM:=fun i T h ⟨⟨old,he⟩,⟨o,ho,_⟩,_⟩ c hc=>by
    simp only[List.mem_cons,List.not_mem_nil,or_false] at hc
    rcases hc with rfl | rfl
    · exact⟨_,he⟩
    · exact⟨_,ho⟩
  item:=fun i s Q E hi ⟨⟨old,he⟩,hit,hl⟩ hQ=>by
    refine wpAny_pyNext_enum_itemD (Draws.list (A:=A.in1) hh it l hli items) he ⟨hit,hl⟩ hi hei (by simp[hei,Ne.symm hle]) fun x h' tk px ho st hT hsz hk=>?_
    exact hQ _ x h' (tk+1) ⟨⟨_,rfl⟩,px⟩ hT ⟨⟨x,ho⟩,st⟩ fun b o hb y=>hk b o (fun q=>hb (by simp[q])) (fun q=>hb (by simp[q])) y
  done:=fun s Q E ⟨⟨old,he⟩,hit,hl⟩ hQ =>
    wpAny_pyNext_enum_endD (Draws.list (A:=A.in1) hh it l hli items) he ⟨hit,hl⟩ fun h' hx=>hQ h' s.toks fun b o hb y=>hx b o (fun q=>hb (by simp[q])) y
  self:=fun i s Q E ⟨⟨old,he⟩,_⟩ hQ=>wpAny_pyIter_enum he hQ
section
variable {B:Base}{A:Around}{G:St}{H:AH}{s:Shared}
theorem iter_range {a b:Int}{r:Addr}{t u v:Tok}(I:Inv B G H s.heap)(hr:IsRange s.heap r a b 1 t u v)(ha:small a=true)(hb:small b=true) :
    Iters B A (fun q_=>True) (pyIter (.ref r)) G H (ZC a b) s:=fun Q E hQ=>by
  unfold small bits at ha hb
  simp only[Bool.and_eq_true,decide_eq_true_eq] at ha hb
  refine wpAny_pyIter_range hr (small_one (by omega) (by omega) (by omega) (by omega)) ?_
  obtain⟨st,I',own⟩:=push_itr (B:=B) I (o:={ cls := .type "range_iterator",data := .fields #[rawInt a,rawInt (Builtin.Range.rangeSize a b 1),rawInt 1] }) rfl
  have W:=Itr.ofWalks (B:=B) (xs:=ZC a b) (fun A (hA:A.handled=none)=>Walks.range (prog:=B.prog) (w:=B.w) (A:=A) hA s.heap.objs.size a 1 (b-a).toNat) (by unfold ZC;simp)
    (fun k h st b hb=>by
      rw[List.mem_singleton] at hb;subst hb
      exact⟨_,st⟩) (fun k h st=>⟨_,st,rfl⟩) (by decide) (R:=fun q_=>True) (fun q_ q_ q_ q_ q_=>trivial)
    (fun G i x v q_ hx hv=>by
      obtain⟨t,rfl⟩:=hv
      unfold ZC at hx
      rw[List.getElem?_map] at hx
      obtain⟨j,hj,rfl⟩:=Option.map_eq_some_iff.mp hx
      obtain⟨_,q⟩:=List.getElem?_eq_some_iff.mp hj
      rw[List.getElem_range] at q;subst q
      exact⟨t,by simp⟩)
  refine hQ _ _ _ G _ s.toks st I' W ⟨?_,fun b hb=>?_,fun b hb hb'=>absurd hb hb',trivial⟩ fun b hb=>?_
  · show IsRangeIter _ _ (a+((0:Nat):Int) * 1) (((b-a).toNat:Int)-((0:Nat):Int)) 1
    have e1:a+((0:Nat):Int) * 1=a:=by simp
    have e2:(((b-a).toNat:Int)-((0:Nat):Int))=Builtin.Range.rangeSize a b 1:=by rw[rangeSize_nat];simp
    rw[e1,e2]
    exact Heap.get?_push_size _ rfl
  · rw[List.mem_singleton] at hb;subst hb;exact own
  · rw[List.mem_singleton] at hb;subst hb
    exact⟨Heap.get?_end _,own.2.2.2⟩
theorem repD_pairs:∀ {kvs:List (Int×AV)}{es:List DictEntry},RepD B G kvs es→∃ l:List (Int×Value),l.map (·.1)=kvs.map (·.1)∧(∀ e∈es,∃ k,(intKind B.prog B.w).is k e.key=true∧e.hash=(intKind B.prog B.w).hash k)∧Pairs (intKind B.prog B.w) es l
  | [],es,r=>⟨[],rfl,by rw[show es=[] from r];exact⟨fun q_ h=>(List.not_mem_nil h).elim,.nil⟩⟩
  | p :: kvs,es,r=>by
    obtain⟨e,t,u,rfl,ek,eh,rv,rr⟩:=r
    obtain⟨l,h1,h2,h3⟩:=repD_pairs rr
    have hk:(intKind B.prog B.w).is p.1 e.key=true:=by
      rw[ek];show Value.isInt p.1 (.int p.1 t)=true
      simp[Value.isInt]
    refine⟨(p.1,e.val)::l,by simp[h1],fun x hx=>?_,.cons hk rfl h3⟩
    rcases List.mem_cons.mp hx with rfl | hx
    · exact⟨p.1,hk,eh⟩
    · exact h2 x hx
theorem iter_dct {kvs:List (Int×AV)}{v:Value}(I:Inv B G H s.heap)(hn:(kvs.map (·.1)).Nodup)(r:Rep B G (.dct kvs) v):Iters B A (fun q_=>True) (pyIter v) G H (kvs.map fun p => .int p.1) s:=fun Q E hQ=>by
  obtain⟨a,es,n,rfl,g,hs,rd⟩:=r
  have ho:=I.sub _ _ g
  obtain⟨l,h1,h2,h3⟩:=repD_pairs rd
  have hd:s.heap.DictAt (intKind B.prog B.w) a l n:=⟨_,es,ho,⟨rfl,rfl,rfl⟩,rfl,fun e he=>h2 e (by simpa using he),h3,by rw[h1];exact hn⟩
  refine wpAny_pyIter_dict hs hd ?_
  obtain⟨st,I',own⟩:=push_itr (B:=B) I (o:={ cls := .type "dict_keyiterator",data := .fields #[.ref a,.int 0 0,.int l.length 0,.int n 0] }) rfl
  have hl:l.length=kvs.length:=by have:=congrArg List.length h1;simpa using this
  have W:=Itr.ofWalks (B:=B) (xs:=kvs.map fun p => .int p.1) (fun A (hA:A.handled=none)=>Walks.dictKeys (knd:=intKind B.prog B.w) (A:=A) hA s.heap.objs.size a (ne_end ho) l n) (by simp[hl])
    (fun k h st b hb=>by
      rw[List.mem_singleton] at hb;subst hb
      obtain⟨o,e,_⟩:=st.1
      exact⟨o,e⟩) (fun k h st=>let ⟨o,e,c,_⟩:=st.1;⟨o,e,c⟩) (by decide) (R:=fun G=>∃ o,G.g a=some o) (fun G G' ⟨o,e⟩ k ka=>⟨o,k _ _ e⟩)
    (fun G i x v q_ hx hv=>by
      obtain⟨k,y,e,hk⟩:=hv
      obtain⟨t,rfl⟩:=Value.isInt_shape hk
      rw[List.getElem?_map] at hx
      obtain⟨p,hp,rfl⟩:=Option.map_eq_some_iff.mp hx
      have q:(l.map (·.1))[i]? = (kvs.map (·.1))[i]?:=by rw[h1]
      rw[List.getElem?_map,List.getElem?_map,e,hp] at q
      cases q
      exact⟨t,rfl⟩)
  refine hQ _ _ _ G _ s.toks st I' W ⟨⟨⟨_,Heap.get?_push_size _ rfl,rfl,rfl⟩,hd.keep fun b o e=>Heap.get?_push_of_some _ e⟩,fun b hb=>?_,fun b hb hb'=>?_,_,g⟩ fun b hb=>?_
  · rw[List.mem_singleton] at hb;subst hb;exact own
  · rcases List.mem_cons.mp hb with q | q
    · exact absurd (by rw[q];exact List.mem_singleton_self _) hb'
    · rw[List.mem_singleton] at q;subst q;exact⟨_,g⟩
  · rw[List.mem_singleton] at hb;subst hb
    exact⟨Heap.get?_end _,own.2.2.2⟩
end
end
section
open PySem PySem.W PyProof.Rows PySem.Calls
section
variable {M:Model}{A:Around}{E:Value→Shared→Prop}{s:Shared}{env:Env}
theorem not_i {a:Bool}(h:(!a)=true):a=false:=by cases a;rfl;cases h
theorem noStar_trees:∀ {es:List Expr}{p:Pos},(es.all fun e => !isStar e)=true→(backTo p (starEach es env)).any (·.1)=false∧(backTo p (starEach es env)).length=es.length
  | [],_,_=>⟨rfl,rfl⟩
  | e :: es,p,h=>by
    rw[List.all_cons,Bool.and_eq_true] at h
    obtain⟨a,b⟩:=noStar_trees (es:=es) (p:=p) h.2
    rw[starEach_cons (not_i h.1)]
    refine⟨?_,?_⟩
    · show(false||(backTo p (starEach es env)).any (·.1))=false
      rw[a];rfl
    · show(backTo p (starEach es env)).length+1=_
      rw[b];rfl
theorem evalArgs_of {f:Value}{args:List (Bool×Sem Value)}{Q:Args→Shared→Prop}(hp:args.any (·.1)=false)
    (h:wpAny M A (spliced args) (fun vs s'=>Q ⟨vs,[]⟩ s') E s):wpAny M A (evalArgs f true args []) Q E s:=by
  have fin:wpAny M A (spliced args >>= fun vs=>(do
      let (pos,late):=(vs,(none:Option Value))
      holding (pos++late.toList) (do
        let kw ←(do let ks ←evalAll [];pure (([]:List Str).zip ks))
        pure (Args.mk pos kw)))) Q E s :=
    wpAny_bind (wpAny_mono h (fun vs s' h'=>wpAny_holding (wpAny_bind (wpAny_bind (wpAny_evalAll_nil (wpAny_pure (wpAny_pure h')))))) fun q_ q_ x=>x)
  cases args with
  | nil =>
    unfold evalArgs
    show wpAny M A (spliced [] >>= _) Q E s
    refine wpAny_bind (wpAny_mono h (fun vs s' h'=>?_) fun q_ q_ x=>x)
    refine wpAny_bind (wpAny_pure ?_)
    refine wpAny_holding ?_
    exact wpAny_bind (wpAny_pure (wpAny_bind (wpAny_pure (wpAny_pure h'))))
  | cons a r =>
    obtain⟨b,t⟩:=a
    cases b with
    | true=>cases hp
    | false=>exact evalArgs_plain h
inductive Callee (h:Heap):Value→Prop
  | builtin (id:String):Callee h (.builtin id)
  | type (T:String):Callee h (.type T)
  | func {a:Addr} {o:Obj} {fd:FuncData} (ho:h.get? a=some o) (hd:o.data = .func fd):Callee h (.ref a)
  | cls {C:Addr} {cr:CR} {bm ab newId} (hC:h.get? C=some (cr.obj C bm ab newId)):Callee h (.ref C)
end
section
variable {prog:Program}{w:World}{A:Around}{E:Value→Shared→Prop}{s:Shared}{env:Env}
set_option tactic.hygienic true in
theorem callWith_any {pos:Pos}{f:Value}{args:List (Bool×Sem Value)}{Q:Value→Shared→Prop}(hp:args.any (·.1)=false)
    (h:wpAny (model prog w) A (spliced args) (fun vs s₁=>Callee s₁.heap f∧wpAny (model prog w) A (call f vs) Q E s₁) E s) :
    wpAny (model prog w) A (callWith pos f [] args []) Q E s:=by
  have tail:∀ {t:Sem Value} {s₁:Shared},wpAny (model prog w) A t Q E s₁→wpAny (model prog w) A (t >>= fun r=>holding [r] point >>= fun q_=>pure r) Q E s₁ :=
    fun ht=>wpAny_bind (wpAny_mono ht (fun r s₂ hr=>wpAny_bind (wpAny_holding (wpAny_point (wpAny_pure hr)))) fun q_ q_ x=>x)
  unfold callWith
  refine wpAny_bind (wpAny_holding (evalArgs_of hp (wpAny_mono h (fun vs s₁ h₁=>wpAny_bind (wpAny_standAt ?_)) fun q_ q_ x=>x)))
  obtain⟨hc,hcall⟩:=h₁
  have hst:(args.any (fun x=>x.fst)||([]:List (Option Str×Sem Value)).any fun x=>x.fst.isNone)=false:=by rw[hp];rfl
  cases hc with
  | builtin id =>
    rw[hst]
    exact wpAny_bind (wpAny_pure (tail hcall))
  | type T =>
    rw[hst]
    exact wpAny_bind (wpAny_pure (tail hcall))
  | func ho hd =>
    rename_i a o fd
    rw[hst]
    refine wpAny_bind (m:=keeperOf (.ref a)) ?_
    unfold keeperOf
    refine wpAny_bind (wpAny_load ho ?_)
    rw[hd]
    refine wpAny_pure ?_
    show wpAny (model prog w) A (if args.length+2 * ([]:List (Option Str×Sem Value)).length > 30 then(call (.ref a) vs [] >>= fun r=>holding [r] point >>= fun q_=>pure r)
      else(callMarked plainCall (.ref a) vs [] >>= fun r=>holding [r] point >>= fun q_=>pure r)) Q E s₁
    split
    · exact tail hcall
    · exact tail (by unfold callMarked;exact wpAny_keep hcall)
  | cls hC =>
    rename_i C cr bm ab newId
    refine via fun R_ k_=>?_
    obtain⟨hh,g,d,t,os⟩:=s₁
    refine k_ ?_
    have f1:=tc_lookup
    have hT:(⟨hh,g,d,t,os⟩:Shared).TypeIs (.ref C) "type" :=⟨_,hC,rfl⟩
    show wpAny _ _ (keeperOf (.ref C) >>= _) _ _ _
    unfold keeperOf specialOf
    repeat (any_goals (first | assumption | with_reducible refine wpAny_loadPart_at hC ?_ | with_reducible refine wpAny_load' hC ?_ | wp_step))
    rw[if_pos (by rfl),hst]
    show wpAny _ _ (call (.ref C) vs [] >>= fun r=>do holding [r] point;pure r) _ _ _
    exact tail hcall
end
end
section
open PySem PySem.W PyProof.Rows PySem.Calls
set_option tactic.hygienic true in
theorem cells_some (x:Str):∀ (names:List (Str×NameKind))(n:Nat)(acc:List (Str×Addr)),((x,NameKind.cell)∈names∨(acc.lookup x).isSome=true)→((cellsFrom n names acc).lookup x).isSome=true
  | [],n,acc,h=>by
    rcases h with h | h
    · cases h
    · exact h
  | (y, k) :: r,n,acc,h=>by
    unfold cellsFrom
    split
    · rename_i hk
      refine cells_some x r _ _ ?_
      rcases h with h | h
      · rcases List.mem_cons.mp h with e | h
        · cases e
          right
          rw[List.lookup_cons,beq_self_eq_true];rfl
        · exact .inl h
      · right
        rw[List.lookup_cons]
        split
        · rfl
        · exact h
    · rename_i hk
      refine cells_some x r _ _ ?_
      rcases h with h | h
      · rcases List.mem_cons.mp h with e | h
        · cases e;exact absurd rfl hk
        · exact .inl h
      · exact .inr h
section
variable {kindOf:Str→Option NameKind}
theorem bindL_other:∀ (l:List (Str×Value))(m:Str→Option Value)(n:Str),n ∉ l.map (·.1)→bindL kindOf l m n=m n
  | [],m,n,_=>rfl
  | (x,v)::r,m,n,h=>by
    rw[List.map_cons,List.mem_cons,not_or] at h
    unfold bindL
    rw[bindL_other r _ n h.2]
    split
    · exact if_neg h.1
    · rfl
theorem bindC_other:∀ (l:List (Str×Value))(m:Str→Option Value)(n:Str),n ∉ l.map (·.1)→bindC kindOf l m n=m n
  | [],m,n,_=>rfl
  | (x,v)::r,m,n,h=>by
    rw[List.map_cons,List.mem_cons,not_or] at h
    unfold bindC
    rw[bindC_other r _ n h.2]
    split
    · rfl
    · exact if_neg h.1
theorem bindL_at:∀ (l:List (Str×Value))(m:Str→Option Value)(n:Str)(v:Value),(l.map (·.1)).Nodup→(n,v)∈l→kindOf n=some .local→bindL kindOf l m n=some v
  | [],_,_,_,_,h,_=>by cases h
  | (x,u)::r,m,n,v,hn,h,hk=>by
    rw[List.map_cons,List.nodup_cons] at hn
    unfold bindL
    rcases List.mem_cons.mp h with e | h
    · cases e
      rw[bindL_other r _ _ hn.1,if_pos hk]
      exact if_pos rfl
    · exact bindL_at r _ n v hn.2 h hk
theorem bindC_at:∀ (l:List (Str×Value))(m:Str→Option Value)(n:Str)(v:Value),(l.map (·.1)).Nodup→(n,v)∈l→kindOf n≠some .local→bindC kindOf l m n=some v
  | [],_,_,_,_,h,_=>by cases h
  | (x,u)::r,m,n,v,hn,h,hk=>by
    rw[List.map_cons,List.nodup_cons] at hn
    unfold bindC
    rcases List.mem_cons.mp h with e | h
    · cases e
      rw[bindC_other r _ _ hn.1,if_neg hk]
      exact if_pos rfl
    · exact bindC_at r _ n v hn.2 h hk
end
set_option tactic.hygienic true in
theorem freezeCells {B:Base}{H:AH}{h:Heap}(cm:Str→Option Value):∀ (l:List (Str×Addr))(G:St),Inv B G H h→(l.Pairwise fun x y=>x.2≠y.2) →
    (∀ n c,(n,c)∈l→c ∉ G.adr∧c ∉ B.tabP∧G.g c=none∧h.IsCell c (cm n)) →
    ∃ G',Inv B G' H h∧G'.al=G.al∧(∀ b o,G.g b=some o→G'.g b=some o)∧(∀ b,b ∉ l.map (·.2)→G'.g b=G.g b)∧(∀ n c,(n,c)∈l→cm n=none→G'.g c=none) ∧
      ∀ n c,(n,c)∈l→∀ v,cm n=some v→∃ o,G'.g c=some o∧o.data = .cell (some v)
  | [],G,I,_,_=>⟨G,I,rfl,fun q_ q_ e=>e,fun q_ q_=>rfl,fun q_ q_ h=>(List.not_mem_nil h).elim,fun q_ q_ h=>(List.not_mem_nil h).elim⟩
  | (n, c) :: r,G,I,pw,hc=>by
    refine via fun R_ k_=>?_
    obtain⟨p1,p2⟩:=List.pairwise_cons.mp pw
    obtain⟨a1,a2,a3,o,ho,hd⟩:=hc n c List.mem_cons_self
    refine k_ ?_
    have cr:c ∉ r.map (·.2):=fun hm=>by
      obtain⟨q,hq,e⟩:=List.mem_map.mp hm
      exact p1 q hq e.symm
    cases hv:cm n with
    | none =>
      refine via fun R_ k_=>?_
      obtain⟨G',b1,b2,b3,b4,b5,b6⟩:=freezeCells cm r G I p2 fun n' c' hm=>hc n' c' (List.mem_cons_of_mem _ hm)
      refine k_ ?_
      refine⟨G',b1,b2,b3,fun b hb=>b4 b fun q=>hb (List.mem_cons_of_mem _ q),fun n' c' hm e=>?_,fun n' c' hm v e=>?_⟩
      · rcases List.mem_cons.mp hm with q | hm
        · cases q;rw[b4 c cr,a3]
        · exact b5 n' c' hm e
      · rcases List.mem_cons.mp hm with q | hm
        · cases q;rw[hv] at e;cases e
        · exact b6 n' c' hm v e
    | some v =>
      have I1:=I.freeze ho a1 a2 fun o' e=>by rw[a3] at e;cases e
      have other:∀ b,b≠c→(G.put c o).g b=G.g b:=fun b hb=>by simp only[St.put];rw[if_neg hb]
      obtain ⟨G',b1,b2,b3,b4,b5,b6⟩:=freezeCells cm r (G.put c o) I1 p2 fun n' c' hm=>by
        obtain⟨x1,x2,x3,x4⟩:=hc n' c' (List.mem_cons_of_mem _ hm)
        have hne:c'≠c:=fun q=>p1 (n',c') hm q.symm
        exact⟨x1,x2,by rw[other c' hne];exact x3,x4⟩
      refine⟨G',b1,b2,fun b o' e=>b3 b o' ?_,fun b hb=>?_,fun n' c' hm e=>?_,fun n' c' hm v' e=>?_⟩
      · simp only[St.put]
        split
        · rename_i q;subst q;rw[a3] at e;cases e
        · exact e
      · rw[List.map_cons,List.mem_cons,not_or] at hb
        rw[b4 b hb.2,other b hb.1]
      · rcases List.mem_cons.mp hm with q | hm
        · cases q;rw[hv] at e;cases e
        · exact b5 n' c' hm e
      · rcases List.mem_cons.mp hm with q | hm
        · cases q
          rw[hv] at e;cases e
          exact⟨o,b3 _ _ (St.put_at ..),by rw[hd,hv]⟩
        · exact b6 n' c' hm v' e
structure FnCore (B:Base)(a:Addr)(fd:FuncData)(T:Tabs)(names:List (List Nat))(np:Nat):Prop where
  obj:∃ o,B.h₀.get? a=some o∧o.data = .func fd
  tab:a ∉ B.tabP
  tg:T.gnames=B.T.gnames
  tm:T.mnames=B.T.mnames
  clo:fd.closure=[]
  glb:fd.globals=mainGlobals
  blt:fd.builtins=builtinsNs
  hnp:np≤names.length
  sc:scopeOk fd.scope names=true
  free:∀ p∈fd.scope.names,p.2 ≠ .free
  par:∀ n∈names.take np,jH fd.scope (toS n) .local=true∨jH fd.scope (toS n) .cell=true
  site:∀ w,T.sfx=some w→∃ q∈B.tabs,fd.code = .ref q.1∧B.siteQ q.1=(fd.qualname ++ ".<locals>.")++toS w
  tl:∀ k n a b s,T.lamE k n a b s=true→B.T.lamE k n a b s=true
  ts:∀ k n a b s,T.lamS k n a b s=true→B.T.lamS k n a b s=true
  code:∃ c oc fs t,fd.code = .ref c∧B.h₀.get? c=some oc∧c ∉ B.tabP∧oc.data = .fields fs∧fs[1]? = some (.str fd.qualname t)
section
variable {B:Base}{G:St}{H:AH}
theorem frOK_top {a:Addr}{fd:FuncData}{T:Tabs}{names:List (List Nat)}{np:Nat}(C:FnCore B a fd T names np){args:List AV}{F:AF}(eF:frameOf names.length np args []=some F)
    {vs:List Value} {s s₁:Shared} (I:Inv B G H s.heap) (rs:RepL B G args vs)
    (X : InCallC s (callEnvC fd s.heap.objs.size a).locals (bindL (callEnvC fd s.heap.objs.size a).kindOf (((names.take np).map toS).zip vs) fun q_=>none) (callEnvC fd s.heap.objs.size a).cells
      (bindC (callEnvC fd s.heap.objs.size a).kindOf (((names.take np).map toS).zip vs) fun q_=>none) s₁) :
    ∃ G',Inv B G' H s₁.heap∧Step B Pure G s.heap G' s₁.heap∧FrOK B T fd.scope names (callEnvC fd s.heap.objs.size a) F G' s₁.heap:=by
  have S:=scopeOk_iff C.sc
  obtain⟨ea,rfl⟩:=frame_some eF
  have hvl:vs.length=np:=by rw[rs.len,ea]
  have hnl:((names.take np).map toS).length=np:=by
    rw[List.length_map,List.length_take];exact Nat.min_eq_left C.hnp
  have nd:((names.take np).map toS).Nodup:=List.Pairwise.map toS (fun a b (q:a≠b) q'=>q (toS_inj.mp q')) (List.Nodup.sublist (List.take_sublist _ _) S.nod)
  have zk:(((names.take np).map toS).zip vs).map (·.1)=(names.take np).map toS:=zip_keys (hvl.trans hnl.symm)
  have zmem:∀ {i:Nat} {n:List Nat} {v:Value},names[i]? = some n→i<np→vs[i]? = some v→(toS n,v)∈((names.take np).map toS).zip vs:=fun {i n v} hn hi hv=>by
    refine List.mem_of_getElem? (i:=i) ?_
    rw[List.getElem?_zip_eq_some]
    exact⟨by rw[List.getElem?_map,List.getElem?_take_of_lt hi,hn];rfl,hv⟩
  have znot:∀ {i:Nat} {n:List Nat},names[i]? = some n→np≤i→toS n ∉ (((names.take np).map toS).zip vs).map (·.1):=fun {i n} hn hi hm=>by
    rw[zk] at hm
    obtain⟨y,hy,e⟩:=List.mem_map.mp hm
    rw[toS_inj] at e;subst e
    obtain⟨j,hj⟩:=List.mem_iff_getElem?.mp hy
    have hj':j<np:=by
      rcases Nat.lt_or_ge j np with q | q
      · exact q
      · rw[List.getElem?_take_eq_none q] at hj;cases hj
    rw[List.getElem?_take_of_lt hj'] at hj
    have:=nodup_at S.nod hj hn
    exact absurd hj' (by rw[this];exact Nat.not_lt.mpr hi)
  have keep:=X.toInCall.keep
  have I1:Inv B G H s₁.heap:=I.keeps fun b o q_ e=>keep b o e
  have fresh:∀ b,s.heap.objs.size≤b→G.g b=none∧b ∉ G.adr∧b ∉ B.tabP∧s.heap.get? b=none:=fun b hb =>
    ⟨I.gNew hb,fun m=>absurd (I.lt m) (Nat.not_lt.mpr hb),fun m=>absurd (I.tabLt m) (Nat.not_lt.mpr hb),Heap.get?_none_of_le hb⟩
  have above:∀ n c,(n,c)∈(callEnvC fd s.heap.objs.size a).cells→s.heap.objs.size<c:=fun n c hm=>X.above n c hm
  let l:List (Str×Addr):=(callEnvC fd s.heap.objs.size a).cells.filter fun p=>decide ((callEnvC fd s.heap.objs.size a).cells.lookup p.1=some p.2)
  have lmem:∀ n c,(n,c)∈l↔(n,c)∈(callEnvC fd s.heap.objs.size a).cells∧(callEnvC fd s.heap.objs.size a).cells.lookup n=some c:=fun n c=>by
    show(n,c)∈List.filter _ _↔_
    rw[List.mem_filter];simp
  obtain ⟨G',b1,b2,b3,b4,b5,b6⟩:=freezeCells (bindC (callEnvC fd s.heap.objs.size a).kindOf (((names.take np).map toS).zip vs) fun q_=>none) l G I1
    (List.Pairwise.sublist List.filter_sublist X.apart) fun n c hm=>by
      obtain⟨h1,h2⟩:=(lmem n c).mp hm
      have hc:=Nat.le_of_lt (above n c h1)
      exact⟨(fresh c hc).2.1,(fresh c hc).2.2.1,(fresh c hc).1,X.cell n c h2⟩
  have hLl:(callEnvC fd s.heap.objs.size a).locals ∉ l.map (·.2):=fun hm=>by
    obtain⟨⟨n,c⟩,hq,e⟩:=List.mem_map.mp hm
    have:=above n c ((lmem n c).mp hq).1
    have e':c=s.heap.objs.size:=e
    rw[e'] at this
    exact absurd this (Nat.lt_irrefl _)
  have adr':G'.adr=G.adr:=by unfold St.adr;rw[b2]
  have repm:∀ {x:AV} {v:Value},Rep B G x v→Rep B G' x v:=fun r=>Rep.mono b3 (fun i p e=>by rw[b2];exact e) r
  have st:Step B Pure G s.heap G' s₁.heap:=by
    refine⟨fun b o q_ e=>⟨o,keep b o e⟩,b3,fun b o e q_=>b4 b fun hm=>?_,⟨[],by rw[b2,List.append_nil],fun q_ hm=>(List.not_mem_nil hm).elim⟩,fun b o q_ q_ q_ e=>keep b o e⟩
    obtain⟨⟨n,c⟩,hq,e'⟩:=List.mem_map.mp hm
    have h1:=above n c ((lmem n c).mp hq).1
    have e2:c=b:=e'
    rw[e2] at h1
    exact absurd (Heap.lt_size e) (Nat.not_lt.mpr (Nat.le_of_lt h1))
  have argAt:∀ {i:Nat} {v:AV},((args.map some)++List.replicate (names.length-np) none:AF)[i]? = some (some v)→i<np∧args[i]? = some v:=fun {i v} hv=>by
    have hi:i<args.length:=by
      rcases Nat.lt_or_ge i args.length with h | h
      · exact h
      · rw[List.getElem?_append_right (by rw[List.length_map];exact h)] at hv
        have:=List.mem_of_getElem? hv
        rw[List.mem_replicate] at this
        cases this.2
    rw[List.getElem?_append_left (by rw[List.length_map];exact hi),List.getElem?_map] at hv
    cases ha:args[i]? with
    | none=>rw[ha] at hv;cases hv
    | some x=>rw[ha] at hv;cases hv;exact⟨ea▸hi,rfl⟩
  refine⟨G',b1,st,C.tg,C.tm,fun x e=>isKind_iff.mp e,fun x e=>isKind_iff.mp e,fun x e => .inl (isKind_iff.mp e),fun x e=>isKind_iff.mp e,S.kind,C.glb,C.blt,S.nod,?_,?_,?_,?_,⟨_,X.toInCall.ns,?_⟩,?_,?_,?_,fun w hw=>C.site w hw,C.tl,C.ts⟩
  · show(putCaps _ []).length=_
    rw[putCaps_len,List.length_append,List.length_map,List.length_replicate,ea];exact Nat.add_sub_cancel' C.hnp
  · rw[b4 _ hLl];exact(fresh _ (Nat.le_refl _)).1
  · rw[adr'];exact(fresh _ (Nat.le_refl _)).2.1
  · exact(fresh _ (Nat.le_refl _)).2.2.1
  · intro i n hn hk v hv
    obtain⟨hi,ha⟩:=argAt hv
    obtain⟨u,hu,ru⟩:=repL_get rs i v ha
    exact⟨u,bindL_at _ _ _ _ (by rw[zk];exact nd) (zmem hn hi hu) (isKind_iff.mp hk),repm ru⟩
  · intro i n hn hk
    have hc:jH fd.scope (toS n) .cell=true:=by
      rcases hk with hk | hk
      · exact hk
      · exact absurd rfl (C.free _ (wK (isKind_iff.mp hk)))
    have hs:=cells_some (toS n) fd.scope.names (s.heap.objs.size+1) [] (.inl (wK (isKind_iff.mp hc)))
    obtain⟨c,ec⟩:=Option.isSome_iff_exists.mp hs
    have ec':(callEnvC fd s.heap.objs.size a).cells.lookup (toS n)=some c:=ec
    have hm:(toS n,c)∈l:=(lmem _ _).mpr ⟨wK ec',ec'⟩
    have hcl:=Nat.le_of_lt (above _ _ (wK ec'))
    refine⟨c,ec',?_⟩
    have hnl:(callEnvC fd s.heap.objs.size a).kindOf (toS n)≠some .local:=fun q=>by
      have q':fd.scope.names.lookup (toS n)=some .local:=q
      rw[isKind_iff.mp hc] at q';cases q'
    have unset:np≤i→(jH fd.scope (toS n) .cell=true∧(∃ o,s₁.heap.get? c=some o∧o.data = .cell none)∧G'.g c=none∧c ∉ G'.adr∧c ∉ B.tabP∧c≠(callEnvC fd s.heap.objs.size a).locals):=fun hi=>by
      have hcm:=bindC_other (kindOf:=(callEnvC fd s.heap.objs.size a).kindOf) (((names.take np).map toS).zip vs) (fun q_=>none) (toS n) (znot hn hi)
      have hx:=X.cell _ _ ec'
      rw[hcm] at hx
      refine⟨hc,hx,b5 _ _ hm hcm,by rw[adr'];exact(fresh c hcl).2.1,(fresh c hcl).2.2.1,fun q=>?_⟩
      have q':c=s.heap.objs.size:=q
      have:=above _ _ (wK ec')
      rw[q'] at this
      exact absurd this (Nat.lt_irrefl _)
    show CelOk B G' s₁.heap fd.scope _ (toS n) c (((args.map some)++List.replicate (names.length-np) none:AF)[i]?)
    rcases Nat.lt_or_ge i np with hi | hi
    · have hia:i<args.length:=ea.symm▸hi
      rw[List.getElem?_append_left (by rw[List.length_map];exact hia),List.getElem?_map,List.getElem?_eq_getElem hia]
      obtain⟨u,hu,ru⟩:=repL_get rs i args[i] (List.getElem?_eq_getElem hia)
      obtain⟨o,g1,g2⟩:=b6 _ _ hm u (bindC_at _ _ _ _ (by rw[zk];exact nd) (zmem hn hi hu) hnl)
      exact⟨o,u,g1,g2,repm ru⟩
    · have hil:i<names.length:=(List.getElem?_eq_some_iff.mp hn).1
      rw[List.getElem?_append_right (by rw[List.length_map,ea];exact hi),List.length_map,List.getElem?_replicate]
      rw[ea,if_pos (Nat.sub_lt_sub_right hi hil)]
      exact unset hi
  · rintro b (hb | ⟨x,hx,hb⟩)
    · refine via fun R_ k_=>?_
      obtain⟨o,_,_,e,_⟩:=X.toInCall.ns
      refine k_ ?_
      exact⟨o,by rw[hb];exact e⟩
    · obtain⟨o,e,_⟩:=X.cell _ _ hb
      exact⟨o,e⟩
  · intro x y c hx hy ex ey
    exact name_of_addr X.apart (wK ex) (wK ey)
end
end
section
open PySem PySem.W PyProof.Rows PySem.Calls
structure SrcOk (B:Base):Prop where
  rng:B.mg (toS [114,97,110,103,101])=none∧B.mb (toS [114,97,110,103,101])=some (.type "range")
  enm:B.mg (toS [101,110,117,109,101,114,97,116,101])=none∧B.mb (toS [101,110,117,109,101,114,97,116,101])=some (.type "enumerate")
  zip:B.mg (toS [122,105,112])=none∧B.mb (toS [122,105,112])=some (.type "zip")
section
variable {B:Base}{A:Around}{T:Tabs}{sc:Scope}{ns:List (List Nat)}{env:Env}{F:AF}
theorem wV {α β:Type}{m:AM α}{f:α→AM β}{H H1:AH}{x:α}(e:m H=some (x,H1)):zZ m f H=f x H1:=by
  unfold zZ
  rw[e]
theorem name_bi {x:Str}{p:Pos}{v:Value}{s:Shared}{G:St}{H:AH}{Q:Value→Shared→Prop}{E:Value→Shared→Prop}(O:BaseOk B)(P:FrOK B T sc ns env F G s.heap)(I:Inv B G H s.heap)
    (hk:jH sc x .globalImplicit=true) (h1:(x==("__debug__" : Str))=false) (b1:B.mg x=none) (b2:B.mb x=some v) (q:Q v s):wpAny (model B.prog B.w) A (eval (.Name x p) env) Q E s:=by
  refine wpAny_Name ?_ h1
  rw[loadName_read P.kind (P.kg _ hk)]
  have g1:s.heap.Ns env.globals B.mg:=P.glb▸I.ns O.glbT O.glb
  have g2:s.heap.Ns env.builtins B.mb:=P.blt▸I.ns O.bltT O.blt
  exact loadGlobal_builtin g1 b1 g2 b2 q
theorem noStar1 {x:Expr}{p:Pos}(hs:isStar x=false):(backTo p (starEach [x] env)).any (·.1)=false :=
  (noStar_trees (es:=[x]) (p:=p) (by rw[List.all_cons,hs];rfl)).1
theorem noStar2 {x y:Expr}{p:Pos}(hs:isStar x=false)(ht:isStar y=false):(backTo p (starEach [x,y] env)).any (·.1)=false :=
  (noStar_trees (es:=[x,y]) (p:=p) (by rw[List.all_cons,List.all_cons,hs,ht];rfl)).1
theorem call1 {x:Str}{p pos:Pos}{e:Expr}{m:AM AV}{ty:String}(O:BaseOk B)(hk:jH sc x .globalImplicit=true)(h1:(x==("__debug__" : Str))=false)
    (b1:B.mg x=none) (b2:B.mb x=some (.type ty)) (hs:isStar e=false) (ha:EvE B A T sc ns env F e m)
    {s:Shared} {G:St} {H H1:AH} {z:AV} {Q:Value→Shared→Prop} {E:Value→Shared→Prop} (P:FrOK B T sc ns env F G s.heap) (I:Inv B G H s.heap) (eq:m H=some (z,H1))
    (h:∀ v G' h' tk',Step B Pure G s.heap G' h'→Inv B G' H1 h'→FrOK B T sc ns env F G' h'→Rep B G' z v→wpAny (model B.prog B.w) A (call (.type ty) [v]) Q E { s with heap:=h',toks:=tk' }) :
    wpAny (model B.prog B.w) A (eval (.Call (.Name x p) [e] [] pos) env) Q E s:=by
  refine wpAny_Call_NameR (name_bi O P I hk h1 b1 b2 (callWith_any (noStar1 hs) ?_))
  refine evl_cons (p:=pos) hs ha evl_nil s G H [z] H1 P I ?_ _ _ fun vs G1 h1 t1 s1 I1 P1 r1=>⟨.type _,?_⟩
  · rw[wV eq];rfl
  · obtain⟨v,rfl,rv⟩:=repL_one r1
    exact h v G1 h1 t1 s1 I1 P1 rv
theorem call2 {x:Str}{p pos:Pos}{e e':Expr}{m m':AM AV}{ty:String}(O:BaseOk B)(hk:jH sc x .globalImplicit=true)(h1:(x==("__debug__" : Str))=false)
    (b1:B.mg x=none) (b2:B.mb x=some (.type ty)) (hs:isStar e=false) (hs':isStar e'=false)
    (ha:EvE B A T sc ns env F e m) (hb:EvE B A T sc ns env F e' m')
    {s:Shared} {G:St} {H H1 H2:AH} {z z':AV} {Q:Value→Shared→Prop} {E:Value→Shared→Prop} (P:FrOK B T sc ns env F G s.heap) (I:Inv B G H s.heap) (eq:m H=some (z,H1)) (eq':m' H1=some (z',H2))
    (h:∀ v u G' h' tk',Step B Pure G s.heap G' h'→Inv B G' H2 h'→FrOK B T sc ns env F G' h'→Rep B G' z v→Rep B G' z' u→wpAny (model B.prog B.w) A (call (.type ty) [v,u]) Q E { s with heap:=h',toks:=tk' }) :
    wpAny (model B.prog B.w) A (eval (.Call (.Name x p) [e,e'] [] pos) env) Q E s:=by
  refine wpAny_Call_NameR (name_bi O P I hk h1 b1 b2 (callWith_any (noStar2 hs hs') ?_))
  refine evl_cons (p:=pos) hs ha (evl_cons hs' hb evl_nil) s G H [z,z'] H2 P I ?_ _ _ fun vs G1 h1 t1 s1 I1 P1 r1=>⟨.type _,?_⟩
  · rw[wV eq,wV (wV eq')];rfl
  · obtain⟨v,u,rfl,rv,ru⟩:=repL_two r1
    exact h v u G1 h1 t1 s1 I1 P1 rv ru
theorem evI_range1 {x:Str}{p pos:Pos}{e:Expr}{ma:AM AV}(O:BaseOk B)(K:SrcOk B)(hx:isS [114,97,110,103,101] x=true)(hk:jH sc x .globalImplicit=true)(hs:isStar e=false)(ha:EvE B A T sc ns env F e ma):EvI B A T sc ns env F (fun q_=>True) (.Call (.Name x p) [e] [] pos) (zZ ma fun v=>zZ (jW (wY v)) fun i=>zZ (jW (aif (small i=true) ())) fun q_=>zH (ZC 0 i)):=fun s G H xs H' P I eq Q E hQ=>by
  rw[isS_eq hx] at hk ⊢
  obtain⟨i,H1,e1,eq⟩:=abind_int eq
  obtain⟨hsm,eq⟩:=ZZ eq
  obtain⟨rfl,rfl⟩:=zF eq
  refine call1 O hk (by decide +kernel) K.rng.1 K.rng.2 hs ha P I e1 fun v G1 h1 t1 s1 I1 P1 r1=>?_
  obtain⟨t,rfl⟩:=r1
  refine call_range_1 ?_
  have k:∀ b o,h1.get? b=some o→(h1.push { cls := .type "range",data := .fields #[.int 0 t1,.int i t,.int 1 (t1+1)] }).get? b=some o:=fun b o e=>Heap.get?_push_of_some _ e
  have s2:Step B Pure G1 h1 G1 _:=Step.priv k
  refine hQ _ _ _ _ (s1.trans s2) (I1.keeps fun b o q_ e=>k b o e) (P1.step s2) fun A' s' hA' es=>?_
  refine via fun R_ k_=>?_
  obtain⟨hp',gg,dd,tt,oo⟩:=s'
  refine k_ ?_
  dsimp only at es
  subst es
  have I':=I1.keeps fun b o q_ e=>k b o e
  exact(iter_range I' (IsRange.new ..) (by decide +kernel) hsm).toX fun b o e=>(s1.live b o (fun q=>q) e).elim fun o' e'=>⟨o',k b o' e'⟩
theorem evI_range2 {x:Str}{p pos:Pos}{e e':Expr}{ma mb:AM AV}(O:BaseOk B)(K:SrcOk B)(hx:isS [114,97,110,103,101] x=true)(hk:jH sc x .globalImplicit=true)(hs:isStar e=false)(hs':isStar e'=false)
    (ha:EvE B A T sc ns env F e ma) (hb:EvE B A T sc ns env F e' mb):EvI B A T sc ns env F (fun q_=>True) (.Call (.Name x p) [e,e'] [] pos) (zZ ma fun v=>zZ mb fun w=>zZ (jW (wY v)) fun i=>zZ (jW (wY w)) fun j=>zZ (jW (aif ((small i&&small j)=true) ())) fun q_=>zH (ZC i j)):=fun s G H xs H' P I eq Q E hQ=>by
  rw[isS_eq hx] at hk ⊢
  obtain⟨z,H1,e1,eq⟩:=zJ eq
  obtain⟨z',H2,e2,eq⟩:=zJ eq
  obtain⟨i,q1,eq⟩:=jB eq
  obtain⟨j,q2,eq⟩:=jB eq
  obtain⟨hsm,eq⟩:=ZZ eq
  obtain⟨rfl,rfl⟩:=zF eq
  have q1:=wF q1
  have q2:=wF q2
  subst q1;subst q2
  have hsm:=(Bool.and_eq_true _ _).mp hsm
  refine call2 O hk (by decide +kernel) K.rng.1 K.rng.2 hs hs' ha hb P I e1 e2 fun v u G1 h1 t1 s1 I1 P1 r1 r2=>?_
  obtain⟨t,rfl⟩:=r1
  obtain⟨t',rfl⟩:=r2
  refine call_range_2 ?_
  have k:∀ b o,h1.get? b=some o→(h1.push { cls := .type "range",data := .fields #[.int i t,.int j t',.int 1 t1] }).get? b=some o:=fun b o e=>Heap.get?_push_of_some _ e
  have s2:Step B Pure G1 h1 G1 _:=Step.priv k
  refine hQ _ _ _ _ (s1.trans s2) (I1.keeps fun b o q_ e=>k b o e) (P1.step s2) fun A' s' hA' es=>?_
  refine via fun R_ k_=>?_
  obtain⟨hp',gg,dd,tt,oo⟩:=s'
  refine k_ ?_
  dsimp only at es
  subst es
  have I':=I1.keeps fun b o q_ e=>k b o e
  exact(iter_range I' (IsRange.new ..) hsm.1 hsm.2).toX fun b o e=>(s1.live b o (fun q=>q) e).elim fun o' e'=>⟨o',k b o' e'⟩
theorem zap_at (n:Nat):Zap (n+4) (n+2) (n+3) n (n+1):=by
  constructor <;> (intro(h:(_:Nat)=_);omega)
theorem evI_zip {x:Str}{p pos:Pos}{e e':Expr}{ma mb:AM AV}(O:BaseOk B)(K:SrcOk B)(hx:isS [122,105,112] x=true)(hk:jH sc x .globalImplicit=true)(hs:isStar e=false)(hs':isStar e'=false)
    (ha:EvE B A T sc ns env F e ma) (hb:EvE B A T sc ns env F e' mb):EvI B A T sc ns env F TupTg (.Call (.Name x p) [e,e'] [] pos) (zZ ma fun v=>zZ mb fun w=>zZ (jW (toStr v)) fun s=>zZ (jW (toStr w)) fun t=>zH (zipOf (s.map fun c => .str [c]) (t.map fun c => .str [c]))):=fun s G H xs H' P I eq Q E hQ=>by
  rw[isS_eq hx] at hk ⊢
  obtain⟨z,H1,e1,eq⟩:=zJ eq
  obtain⟨z',H2,e2,eq⟩:=zJ eq
  obtain⟨cs,q1,eq⟩:=jB eq
  obtain⟨ds,q2,eq⟩:=jB eq
  obtain⟨rfl,rfl⟩:=zF eq
  have q1:=toStr_some q1
  have q2:=toStr_some q2
  subst q1;subst q2
  refine call2 O hk (by decide +kernel) K.zip.1 K.zip.2 hs hs' ha hb P I e1 e2 fun v u G1 h1 t1 s1 I1 P1 r1 r2=>?_
  obtain⟨t,rfl⟩:=r1
  obtain⟨t',rfl⟩:=r2
  refine call_zipS (s:={ s with heap:=h1,toks:=t1 }) fun h2 hz hTI hTO hi1 hi2 k=>?_
  dsimp only at hz hTI hTO hi1 hi2 k
  have I2:Inv B G1 H' h2:=I1.keeps fun b o q_ e=>k b o e
  have off:∀ b,h1.objs.size≤b→b ∉ G1.adr∧b ∉ B.tabP∧G1.g b=none∧h1.get? b=none:=fun b hb=>⟨fun m=>absurd (I1.lt m) (Nat.not_lt.mpr hb),fun m=>absurd (I1.tabLt m) (Nat.not_lt.mpr hb),I1.gNew hb,Heap.get?_none_of_le hb⟩
  have I3:=I1.fresh (a:=h1.objs.size+2) k (off _ (by omega)).2.2.2 hTI
  have s3:=Step.fresh (h':=h2) I1 (a:=h1.objs.size+2) (o:={ cls := .type "tuple",data := .seq #[.ref h1.objs.size,.ref (h1.objs.size+1)] }) k (off _ (by omega)).2.2.2
  refine hQ _ _ _ _ (s1.trans s3) I3 (P1.step s3) fun A' s' hA' es=>?_
  subst es
  intro Q' E' hQ'
  refine wpAny_pyIter_zip hz ?_
  have W:=Itr.ofPrs (B:=B) (xs:=zipOf (cs.map fun c => .str [c]) (ds.map fun c => .str [c])) (fun A (hA:A.handled=none)=>Prs.zip (prog:=B.prog) (w:=B.w) (A:=A) hA (z:=h1.objs.size+4) (TI:=h1.objs.size+2) (TO:=h1.objs.size+3) (i1:=h1.objs.size) (i2:=h1.objs.size+1)
      (zap_at h1.objs.size) (toS cs) (toS ds) t t')
    (fun A elts kk pos i T s Q E hM hQ=>by
      refine via fun R_ k_=>?_
      obtain⟨hz,hTI,⟨a,b,hTO⟩,h1',h2'⟩:=hM
      refine k_ ?_
      refine wpAny_letOwnedTupleGo_zip hz fun h' hx hs=>?_
      exact hQ h' ⟨hx,(hs.2 _ (zap_at h1.objs.size).TIz).trans hTI,⟨a,b,(hs.2 _ (zap_at h1.objs.size).TOz).trans hTO⟩,h1'.elim fun o y=>⟨o,(hs.2 _ (zap_at h1.objs.size).i1z).trans y.1,y.2⟩,h2'.elim fun o y=>⟨o,(hs.2 _ (zap_at h1.objs.size).i2z).trans y.1,y.2⟩⟩ fun b o hb y=>(hs.2 b fun q=>hb (by simp[q])).trans y)
    (by
      have q1:(toS cs).cps.size=cs.length:=by unfold toS;simp
      have q2:(toS ds).cps.size=ds.length:=by unfold toS;simp
      unfold zipOf;simp[q1,q2]) (R:=fun q_=>True) (fun q_ q_ q_ q_ q_=>trivial)
    (fun G i x v u q_ hx hv=>by
      unfold zipOf at hx
      rw[List.getElem?_map] at hx
      obtain⟨p,hp,rfl⟩:=Option.map_eq_some_iff.mp hx
      obtain⟨y,z⟩:=p
      rw[List.getElem?_zip_eq_some] at hp
      exact⟨_,_,rfl,sign_rep hp.1 hv.1,sign_rep hp.2 hv.2⟩)
  have ne:∀ b,b≠h1.objs.size+2→(G1.put (h1.objs.size+2) { cls := .type "tuple",data := .seq #[.ref h1.objs.size,.ref (h1.objs.size+1)] }).g b=G1.g b:=fun b hb=>by
    simp only[St.put];rw[if_neg hb]
  have live:∀ b∈[h1.objs.size+4,h1.objs.size+3,h1.objs.size,h1.objs.size+1],∃ o,s'.heap.get? b=some o:=fun b hb=>by
    simp only[List.mem_cons,List.not_mem_nil,or_false] at hb
    rcases hb with rfl | rfl | rfl | rfl
    · exact⟨_,hz⟩
    · exact⟨_,hTO⟩
    · exact⟨_,hi1⟩
    · exact⟨_,hi2⟩
  refine hQ' _ _ _ _ _ _ (Step.refl ..) I3 W ⟨⟨hz,hTI,⟨_,_,hTO⟩,⟨_,hi1,rfl,rfl⟩,⟨_,hi2,rfl,rfl⟩⟩,fun b hb=>?_,fun b hb hb'=>?_,trivial⟩ fun b hb=>?_
  · have hge:h1.objs.size≤b∧b≠h1.objs.size+2:=by
      simp only[List.mem_cons,List.not_mem_nil,or_false] at hb
      have D:=zap_at h1.objs.size
      rcases hb with rfl | rfl | rfl | rfl
      · exact⟨Nat.le_add_right _ _,D.TIz.symm⟩
      · exact⟨Nat.le_add_right _ _,D.TITO.symm⟩
      · exact⟨Nat.le_refl _,D.TIi1.symm⟩
      · exact⟨Nat.le_add_right _ _,D.TIi2.symm⟩
    exact⟨(off b hge.1).1,(off b hge.1).2.1,(ne b hge.2).trans (off b hge.1).2.2.1,live b hb⟩
  · simp only[List.mem_cons,List.not_mem_nil,or_false,not_or] at hb hb'
    rcases hb with q | q | q | q | q
    · exact absurd q hb'.1
    · rw[q];exact⟨_,St.put_at ..⟩
    · exact absurd q hb'.2.1
    · exact absurd q hb'.2.2.1
    · exact absurd q hb'.2.2.2
  · have hge:h1.objs.size≤b:=by
      simp only[List.mem_cons,List.not_mem_nil,or_false] at hb
      rcases hb with rfl | rfl | rfl | rfl
      · exact Nat.le_add_right _ _
      · exact Nat.le_add_right _ _
      · exact Nat.le_refl _
      · exact Nat.le_add_right _ _
    refine⟨?_,live b hb⟩
    cases q:s.heap.get? b with
    | none=>rfl
    | some o =>
      obtain⟨o',e'⟩:=s1.live b o (fun q=>q) q
      exact absurd (Heap.lt_size e') (Nat.not_lt.mpr hge)
theorem evI_of {tg:Expr→Prop}{e:Expr}{ma:AM AV}(ha:EvE B A T sc ns env F e ma)(ht:∀ t,tg t→True){m:AM (List AV)}(hm:m=zZ ma fun v=>jW (aiterOf v)) :
    EvI B A T sc ns env F (fun q_=>True) e m:=fun s G H xs H' P I eq Q E hQ=>by
  subst hm
  obtain⟨z,H1,e1,eq⟩:=zJ eq
  obtain⟨e2,rfl⟩:=ZW eq
  refine ha s G H z H' P I e1 _ _ fun v G1 h1 t1 s1 I1 P1 r1=>hQ v G1 h1 t1 s1 I1 P1 fun A' s' hA' es=>?_
  subst es
  have lv:∀ b o,s.heap.get? b=some o→∃ o',s'.heap.get? b=some o':=fun b o e=>s1.live b o (fun q=>q) e
  cases z with
  | tup _=>cases e2;exact(iter_tup I1 r1).toX lv
  | lst _=>cases e2;exact(iter_lst I1 r1).toX lv
  | str _=>cases e2;exact(iter_str I1 r1).toX lv
  | dct kvs =>
    replace e2:(if decide (kvs.map (·.1)).Nodup then some (kvs.map fun p=>AV.int p.1) else none)=some xs:=e2
    by_cases hn:decide (kvs.map (·.1)).Nodup=true
    · rw[if_pos hn] at e2
      cases e2
      exact(iter_dct I1 (of_decide_eq_true hn) r1).toX lv
    · rw[if_neg hn] at e2
      cases e2
  | _=>cases e2
theorem evI_enum {x:Str}{p pos:Pos}{e:Expr}{ma:AM AV}(O:BaseOk B)(K:SrcOk B)(hx:isS [101,110,117,109,101,114,97,116,101] x=true)(hk:jH sc x .globalImplicit=true)(hs:isStar e=false)(ha:EvE B A T sc ns env F e ma):EvI B A T sc ns env F TupTg (.Call (.Name x p) [e] [] pos) (zZ ma fun v=>zZ (jW (toLst v)) fun xs=>zH (enumOf xs)):=fun s G H xs H' P I eq Q E hQ=>by
  rw[isS_eq hx] at hk ⊢
  obtain⟨ys,H1,e1,eq⟩:=abind_lst eq
  obtain⟨rfl,rfl⟩:=zF eq
  refine call1 O hk (by decide +kernel) K.enm.1 K.enm.2 hs ha P I e1 fun v G1 h1 t1 s1 I1 P1 r1=>?_
  obtain⟨l,vs,n,rfl,g,ra⟩:=r1
  have hl:=I1.sub _ _ g
  refine call_enumerate_list (s:={ s with heap:=h1,toks:=t1 }) ⟨_,hl,rfl,n,rfl⟩ fun h2 he hit hsz k=>?_
  dsimp only at he hit hsz k
  have s2:Step B Pure G1 h1 G1 h2:=Step.priv k
  have I2:Inv B G1 H' h2:=I1.keeps fun b o q_ e=>k b o e
  refine hQ _ _ _ _ (s1.trans s2) I2 (P1.step s2) fun A' s' hA' es=>?_
  subst es
  intro Q' E' hQ'
  refine wpAny_pyIter_enum he ?_
  have off:∀ b,h1.objs.size≤b→b ∉ G1.adr∧b ∉ B.tabP∧G1.g b=none:=fun b hb=>⟨fun m=>absurd (I1.lt m) (Nat.not_lt.mpr hb),fun m=>absurd (I1.tabLt m) (Nat.not_lt.mpr hb),I1.gNew hb⟩
  have hlt:l<h1.objs.size:=Heap.lt_size hl
  have W:=Itr.ofPrs (B:=B) (xs:=enumOf ys) (fun A (hA:A.handled=none)=>Prs.enum (prog:=B.prog) (w:=B.w) (A:=A) hA (e:=h1.objs.size+1) (it:=h1.objs.size) (l:=l) (Nat.succ_ne_self _) (Nat.ne_of_lt (Nat.lt_succ_of_lt hlt)) (Nat.ne_of_lt hlt) vs)
    (fun A elts kk pos i T s Q E hM hQ=>by
      obtain⟨⟨x,ho⟩,hit,hl⟩:=hM
      refine wpAny_letOwnedTupleGo_enum ho fun h' hx hs=>?_
      exact hQ h' ⟨⟨_,by simpa using hx⟩,hit.at fun o y=>(hs.2 _ (Nat.succ_ne_self _).symm).trans y,hl.at fun o y=>(hs.2 _ (Nat.ne_of_lt (Nat.lt_succ_of_lt hlt))).trans y⟩ fun b o hb y=>(hs.2 b fun q=>hb (by simp[q])).trans y)
    (by unfold enumOf;simp[ZQ ra]) (R:=fun G=>RepL B G ys vs.toList) (fun G G' r k ka=>RepL.mono k ka r)
    (fun G i x v u r hx hv=>by
      obtain⟨⟨t,rfl⟩,hu⟩:=hv
      unfold enumOf at hx
      rw[List.getElem?_map] at hx
      obtain⟨p,hp,rfl⟩:=Option.map_eq_some_iff.mp hx
      rw[List.getElem?_zipIdx] at hp
      obtain⟨y,hy,rfl⟩:=Option.map_eq_some_iff.mp hp
      obtain⟨w,hw,rw'⟩:=repL_get r i y hy
      rw[Array.getElem?_toList,hu] at hw;cases hw
      exact⟨_,_,rfl,⟨t,by simp⟩,rw'⟩)
  refine hQ' _ _ _ _ _ _ (Step.refl ..) I2 W ⟨⟨⟨_,he⟩,hit,⟨_,k _ _ hl,rfl,n,rfl⟩⟩,fun b hb=>?_,fun b hb hb'=>?_,ra⟩ fun b hb=>?_
  · simp only[List.mem_cons,List.not_mem_nil,or_false] at hb
    rcases hb with rfl | rfl
    · exact⟨(off _ (by omega)).1,(off _ (by omega)).2.1,(off _ (by omega)).2.2,_,he⟩
    · obtain⟨o,e,_⟩:=hit
      exact⟨(off _ (by omega)).1,(off _ (by omega)).2.1,(off _ (by omega)).2.2,_,e⟩
  · simp only[List.mem_cons,List.not_mem_nil,or_false,not_or] at hb hb'
    rcases hb with q | q | q
    · exact absurd q hb'.1
    · exact absurd q hb'.2
    · rw[q];exact⟨_,g⟩
  · have older:∀ b,h1.objs.size≤b→s.heap.get? b=none:=fun b hb=>by
      cases q:s.heap.get? b with
      | none=>rfl
      | some o =>
        obtain⟨o',e'⟩:=s1.live b o (fun q=>q) q
        exact absurd (Heap.lt_size e') (Nat.not_lt.mpr hb)
    simp only[List.mem_cons,List.not_mem_nil,or_false] at hb
    rcases hb with rfl | rfl
    · exact⟨older _ (by omega),_,he⟩
    · obtain⟨o,e,_⟩:=hit
      exact⟨older _ (by omega),_,e⟩
end
end
section
open PySem PySem.W PyProof.Rows PySem.Calls
section
variable {prog:Program}{w:World}{A:Around}{E:Value→Shared→Prop}{s:Shared}{env:Env}
theorem callWith_fst {pos:Pos}{f:Value}{first:List Value}{args:List (Bool×Sem Value)}{Q:Value→Shared→Prop}(hp:args.any (·.1)=false)
    (h:wpAny (model prog w) A (spliced args) (fun vs s₁=>(∃ a o fd,f = .ref a∧s₁.heap.get? a=some o∧o.data = .func fd)∧wpAny (model prog w) A (call f (first++vs)) Q E s₁) E s) :
    wpAny (model prog w) A (callWith pos f first args []) Q E s:=by
  have tail:∀ {t:Sem Value} {s₁:Shared},wpAny (model prog w) A t Q E s₁→wpAny (model prog w) A (t >>= fun r=>holding [r] point >>= fun q_=>pure r) Q E s₁ :=
    fun ht=>wpAny_bind (wpAny_mono ht (fun r s₂ hr=>wpAny_bind (wpAny_holding (wpAny_point (wpAny_pure hr)))) fun q_ q_ x=>x)
  unfold callWith
  refine wpAny_bind (wpAny_holding (evalArgs_of hp (wpAny_mono h (fun vs s₁ h₁=>wpAny_bind (wpAny_standAt ?_)) fun q_ q_ x=>x)))
  obtain⟨⟨a,o,fd,rfl,ho,hd⟩,hcall⟩:=h₁
  have hst:(args.any (fun x=>x.fst)||([]:List (Option Str×Sem Value)).any fun x=>x.fst.isNone)=false:=by rw[hp];rfl
  rw[hst]
  refine wpAny_bind (m:=keeperOf (.ref a)) ?_
  unfold keeperOf
  refine wpAny_bind (wpAny_load ho ?_)
  rw[hd]
  refine wpAny_pure ?_
  show wpAny (model prog w) A (if args.length+2 * ([]:List (Option Str×Sem Value)).length > 30 then(call (.ref a) (first++vs) [] >>= fun r=>holding [r] point >>= fun q_=>pure r)
    else(callMarked plainCall (.ref a) (first++vs) [] >>= fun r=>holding [r] point >>= fun q_=>pure r)) Q E s₁
  split
  · exact tail hcall
  · exact tail (by unfold callMarked;exact wpAny_keep hcall)
end
structure CallOK (B:Base)(A:Around)(call':AV→List AV→AM AV):Prop where
  pos:∀ (s:Shared) (G:St) (H H':AH) (f z:AV) (xs:List AV) (v:Value) (vs:List Value),((∃ k,f = .fn k)∨(∃ c,f = .cls c∧¬ (c = .limits∧xs≠[]))∨∃ g l,f = .clo g l) →
    Inv B G H s.heap→Rep B G f v→RepL B G xs vs→call' f xs H=some (z,H')→Callee s.heap v∧Yields B A (call v vs) G H H' z s
  fn:∀ (s:Shared) (G:St) (H H':AH) (k:Nat) (z:AV) (xs:List AV),Inv B G H s.heap→call' (.fn k) xs H=some (z,H')→∃ o fd,s.heap.get? (B.fnA k)=some o∧o.data = .func fd
section
variable {B:Base}{A:Around}{T:Tabs}{sc:Scope}{ns:List (List Nat)}{env:Env}{F:AF}{call':AV→List AV→AM AV}
theorem ev_call (C:CallOK B A call')(hA:A.handled=none){g:Expr}{es:List Expr}{p:Pos}{mf:AM AV}{ms:AM (List AV)}(hg:isName g=true)(hs:(es.all fun e => !isStar e)=true)
    (hf:EvE B A T sc ns env F g mf) (hl:EvL B A T sc ns env F p es ms) :
    EvE B A T sc ns env F (.Call g es [] p) (zZ mf fun x=>zZ ms fun xs=>acallB call' x xs):=fun s G H z H' P I eq Q E hQ=>by
  obtain⟨x,H1,e1,eq⟩:=zJ eq
  obtain⟨xs,H2,e2,eq⟩:=zJ eq
  obtain⟨y,q,rfl,_⟩:=onName_i (f:=_) hg
  · refine wpAny_Call_NameR (hf s G H x H1 P I e1 _ _ fun v G1 h1 t1 s1 I1 P1 r1=>callWith_any (noStar_trees hs).1 ?_)
    refine hl _ G1 H1 xs H2 P1 I1 e2 _ _ fun vs G2 h2 t2 s2 I2 P2 r2=>?_
    have r1':=s2.rep r1
    have fin:∀ {t:Sem Value},Yields B A t G2 H2 H' z { s with heap:=h2,toks:=t2 }→wpAny (model B.prog B.w) A t Q E { s with heap:=h2,toks:=t2 }:=fun y =>
      y.use P2 (s1.trans s2) fun v G' h' tk'=>hQ v G' h' tk'
    cases x with
    | bi b =>
      obtain⟨e3,rfl⟩:=aread_some (g:=fun H=>abi H b xs) eq
      rw[show v=_ from r1']
      refine⟨?_,fin (op_bi e3 hA I2 r2)⟩
      cases b <;> first | exact .builtin _ | exact .type _
    | fn k =>
      obtain⟨c,y⟩:=C.pos { s with heap:=h2,toks:=t2 } G2 H2 H' _ z xs v vs (.inl ⟨k,rfl⟩) I2 r1' r2 eq
      exact⟨c,fin y⟩
    | cls c =>
      by_cases hc:c = .limits∧xs≠[]
      · exact nos (α:=AV×AH) ((congrFun (if_pos hc) H2).symm.trans eq)
      · obtain⟨c,y⟩:=C.pos { s with heap:=h2,toks:=t2 } G2 H2 H' _ z xs v vs (.inr (.inl ⟨c,rfl,hc⟩)) I2 r1' r2 ((congrFun (if_neg hc) H2).symm.trans eq)
        exact⟨c,fin y⟩
    | clo f l =>
      obtain⟨c,y⟩:=C.pos { s with heap:=h2,toks:=t2 } G2 H2 H' _ z xs v vs (.inr (.inr ⟨f,l,rfl⟩)) I2 r1' r2 eq
      exact⟨c,fin y⟩
    | _=>exact nos (α:=AV×AH) eq
theorem base_same {o:Expr}{attr:Str}(h:isCall o=false):attributeBase o attr env (eval o env)=eval o env:=by
  cases o <;> first | rfl | cases h
theorem base_name {o:Expr}{attr:Str}(h:isName o=true):attributeBase o attr env (eval o env)=eval o env:=by
  obtain⟨x,p,rfl,_⟩:=onName_i (f:=_) h
  rfl
theorem few_args {es:List Expr}{pos:Pos}(hs:(es.all fun e => !isStar e)=true)(hl:es.length≤10) :
    ((backTo pos (starEach es env)).all (fun x => !x.1)&&(backToKw pos (keywordEach [] env)).all (fun x=>x.1.isSome)
      && decide (es.length+([]:List Keyword).length+(if([]:List Keyword).isEmpty then 0 else 1)<30))=true:=by
  have h1:=(noStar_trees (p:=pos) (env:=env) hs).1
  have h2:(backTo pos (starEach es env)).all (fun x => !x.1)=true:=by
    rw[List.all_eq_true]
    intro x hx
    rw[List.any_eq_false] at h1
    have:=h1 x hx
    simpa using this
  rw[h2]
  have h3:decide (es.length+([]:List Keyword).length+(if([]:List Keyword).isEmpty then 0 else 1)<30)=true:=by
    apply decide_eq_true
    show es.length+0+0<30
    omega
  rw[h3];rfl
theorem ev_meth {m:Me}{o:Expr}{es:List Expr}{apos pos:Pos}{mo:AM AV}{ms:AM (List AV)}(hs:(es.all fun e => !isStar e)=true)(hlen:es.length≤10)(hb:isCall o=false)(hp:(apos.endLine==pos.line)=true)
    (ho:EvE B A T sc ns env F o mo) (hl:EvL B A T sc ns env F pos es ms) :
    EvE B A T sc ns env F (.Call (.Attribute o m.name apos) es [] pos) (zZ mo fun x=>zZ (amty m x) fun q_=>zZ ms fun xs=>ame m x xs):=fun s G H z H' P I eq Q E hQ=>by
  refine via fun R_ k_=>?_
  obtain⟨x,H1,e1,eq⟩:=zJ eq
  obtain⟨u,H2,e2,eq⟩:=zJ eq
  obtain⟨xs,H3,e3,e4⟩:=zJ eq
  refine k_ ?_
  refine wpAny_Call_method_lateS (base_same hb) (few_args hs hlen) hp (ho s G H x H1 P I e1 _ _ fun v G1 h1 t1 s1 I1 P1 r1=>?_)
  obtain⟨q1,q2,q3⟩:=op_mty (s:={ s with heap:=h1,toks:=t1 }) e2 I1 r1
  subst q1
  obtain⟨m1,m2,m3⟩:=me_slot m
  refine⟨m.ty,m.id,m1,m2,m3,q2,q3,?_⟩
  refine callWith_builtin (noStar_trees hs).1 (evalArgs_of (noStar_trees hs).1 ?_)
  refine hl _ G1 _ xs H3 P1 I1 e3 _ _ fun vs G2 h2 t2 s2 I2 P2 r2=>?_
  exact(op_meth e4 I2 (s2.rep r1) r2).use P2 (s1.trans s2) fun v G' h' tk'=>hQ v G' h' tk'
theorem ev_own (K:ClassesOk B)(C:CallOK B A call'){k:Nat}{n:Str}{nm:List Nat}{o:Expr}{es:List Expr}{apos pos:Pos}{mo:AM AV}{ms:AM (List AV)}(hs:(es.all fun e => !isStar e)=true)(hlen:es.length≤10)(hb:isName o=true)(hp:(apos.endLine==pos.line)=true)
    (hn:T.mnames[k]? = some nm) (hnm:isS nm n=true)
    (ho:EvE B A T sc ns env F o mo) (hl:EvL B A T sc ns env F pos es ms) :
    EvE B A T sc ns env F (.Call (.Attribute o n apos) es [] pos) (zZ mo fun x=>zZ (aclsOf x) fun c=>zZ (jW (B.Gl.mth c k)) fun j=>zZ ms fun xs=>call' (.fn j) (x::xs)):=fun s G H z H' P I eq Q E hQ=>by
  refine via fun R_ k_=>?_
  obtain⟨x,H1,e1,eq⟩:=zJ eq
  obtain⟨c,H2,e2,eq2⟩:=zJ eq
  obtain⟨j,H3,e3,eq3⟩:=zJ eq2
  obtain⟨xs,H4,e4,eq4⟩:=zJ eq3
  obtain⟨e3x,rfl⟩:=ZW e3
  refine k_ ?_
  clear eq eq2 eq3
  rw[isS_eq hnm]
  rw[arm_eval_Call,base_name hb]
  refine wpAny_bind (ho s G H x H1 P I e1 _ _ fun v G1 h1 t1 s1 I1 P1 r1=>wpAny_bind (wpAny_standAt ?_))
  have hform:methodCallForm (es.length+([]:List Keyword).length) (backTo pos (starEach es env)) (backToKw pos (keywordEach [] env))=true:=few_args hs hlen
  have hpos:methodCallPos true o env apos pos=pure pos:=by unfold methodCallPos;simp[hp]
  unfold methodCall
  rw[hform]
  refine via fun R_ k_=>?_
  obtain⟨⟨i,c',fs⟩,H5,e5,e6⟩:=zJ e2
  refine k_ ?_
  clear e2
  obtain⟨rfl,hH,hc,rfl⟩:=ainst_some e5
  cases e6
  obtain⟨p,hp',rfl⟩:=r1
  obtain⟨m,Im,hm,hy⟩:=inst_at (s:={ s with heap:=h1,toks:=t1 }) I1 hH hp'
  obtain⟨mN,CA⟩:=K c' hc
  obtain⟨cr,hC,hN,hNt⟩:=CA.obj
  obtain⟨n',y,a1,a2,a3,a4,o',a5,a6,a7⟩:=CA.mth k j e3x
  have en:n'=nm:=by
    rw[P.tm] at hn
    rw[hn] at a1;cases a1;rfl
  subst en
  have hsh:m (toS n')=none:=by
    cases hq:m (toS n') with
    | none=>rfl
    | some w =>
      obtain⟨f,ef⟩:=hy (toS n') (by rw[hq];simp)
      exact absurd ef.symm (a4 f)
  refine wpAny_bind (wpAny_holding (method_of (I1.sub _ _ (I1.old _ _ hC CA.tab)) (I1.ns hNt hN) CA.gab CA.gat a2 (I1.sub _ _ (I1.old _ _ a5 a6)) a7 a3 Im hsh ?_))
  refine wpAny_bind (wpAny_of_eq hpos ?_)
  refine callWith_fst (noStar_trees hs).1 ?_
  refine hl _ G1 _ xs H4 P1 I1 e4 _ _ fun vs G2 h2 t2 s2 I2 P2 r2=>?_
  have rx:Rep B G2 (.obj i) (.ref p.1):=⟨p,s2.alAt hp',rfl⟩
  obtain⟨o2,fd,f1,f2⟩:=C.fn { s with heap:=h2,toks:=t2 } G2 H4 H' j z _ I2 eq4
  refine⟨⟨_,o2,fd,rfl,f1,f2⟩,?_⟩
  obtain⟨_,y⟩:=C.pos { s with heap:=h2,toks:=t2 } G2 H4 H' (.fn j) z (.obj i::xs) (.ref (B.fnA j)) (.ref p.1::vs) (.inl ⟨j,rfl⟩) I2 rfl ⟨_,_,rfl,rx,r2⟩ eq4
  exact y.use P2 (s1.trans s2) fun v G' h' tk'=>hQ v G' h' tk'
end
end
section
open PySem PySem.W PyProof.Rows PySem.Calls
noncomputable abbrev made2 (h:Heap)(C:Addr):Heap:=(h.push { cls := .type "dict",data := .dict #[] }).push (insO C h.objs.size)
section
variable {prog:Program}{w:World}{A:Around}{E:Value→Shared→Prop}{h:Heap}{g:Array GenState}{d:Drawn}{t:Nat}{os:OsState}
variable {cr:CR}{C:Addr}{newId:String}
theorem objNew:ObjNewFacts "object.__new__" :=⟨by kernel_rfl,by kernel_rfl,by kernel_rfl,by kernel_rfl,by kernel_rfl,rfl,rfl⟩
theorem obj_new_check {M:Model}(F:ObjNewFacts newId){rest:List Value}{kw:List (Str×Value)}{Q:Unit→Shared→Prop}
    (hC:h.get? C=some (cr.obj C [.type "object"] false newId)) (hq:Q () ⟨h,g,d,t,os⟩) :
    wpAny M A (checkBuiltinCall newId ⟨.ref C::rest,kw⟩) Q E ⟨h,g,d,t,os⟩:=by
  have hcont:(Value.ref C::[Value.type "object"]).contains (.type "object")=true:=by rw[List.contains_cons,show [Value.type "object"].contains (.type "object")=true from by decide,Bool.or_true]
  unfold checkBuiltinCall
  rw[F.kind,F.split]
  dsimp only
  repeat (first | refine wpAny_loadPart_at hC ?_ | (refine wpAny_isSubtype_exc hC ?_;rw[hcont]) | refine wpAny_staticBase_exc hC ?_ | refine wpAny_madeBy_exc hC ?_ | simp only[bne_self_eq_false,Bool.false_eq_true,if_false] | wp_step)
  rw[F.row]
  repeat (first | refine wpAny_loadPart_at hC ?_ | (refine wpAny_isSubtype_exc hC ?_;rw[hcont]) | refine wpAny_staticBase_exc hC ?_ | refine wpAny_madeBy_exc hC ?_ | simp only[bne_self_eq_false,Bool.false_eq_true,if_false] | wp_step)
  exact hq
theorem ite_join {M:Model}{β:Type}{c:Prop} [Decidable c]{x y:Sem β}{Q:β→Shared→Prop}{s:Shared}(hy:wpAny M A y Q E s)(hx:wpAny M A y Q E s→wpAny M A x Q E s):wpAny M A (if c then x else y) Q E s:=by
  split
  · exact hx hy
  · exact hy
set_option maxHeartbeats 2000000 in
theorem obj_new_code {R:Result→Shared→Prop}(F:ObjNewFacts newId){mN:Str→Option Value}{rest:List Value}{kw:List (Str×Value)}{fI:Addr}
    (hC:h.get? C=some (cr.obj C [.type "object"] false newId)) (hn:h.Ns cr.N mN) (hi:mN "__init__" = some (.ref fI))
    (hq:R (.ok (.ret (.ref (h.objs.size+1)))) ⟨made2 h C,g,d,t,os⟩) :
    codeAny (model prog w) A (.builtin newId ⟨.ref C::rest,kw⟩) R ⟨h,g,d,t,os⟩:=by
  have hmro:mroOf (.type "object")=pure [.type "object"]:=by kernel_rfl
  have hlk:typeLookup (.type "object") "__init__" = pure (some (.builtin "object.__init__")):=by rw[typeLookup_type,builtinLookup_eq_fast];kernel_rfl
  have hid:=F.isIt
  have hne:(some (Value.ref fI) != some (Value.builtin "object.__init__"))=true:=rfl
  have hsame:(some newId != some "object.__new__")=false:=by rw[hid];exact bne_self_eq_false _
  refine codeAny_builtin F.entry ?_
  unfold Builtin.«object.__new__»
  repeat (first | with_reducible refine wpAny_madeHere_exc F.canon hC ?_ | (with_reducible refine wpAny_madeBy_exc hC ?_;simp only[hsame]) | with_reducible refine wpAny_loadPart_at hC ?_ | (with_reducible refine wpAny_typeLookup_exc hC hn hmro hlk ?_;rw[hi];simp only[hne]) | wp_step)
  refine ite_join ?_ fun tail=>?_
  · repeat (first | with_reducible refine wpAny_loadPart_at hC ?_ | wp_step)
    show wpAny _ _ (alloc { cls := .type "dict",data := .dict #[] } >>= fun x=>pure (some x)) _ _ _
    refine wpAny_bind (wpAny_alloc' (wpAny_pure ?_))
    unfold newObj
    repeat wp_step
    show R _ _
    rw[Heap.size_push]
    exact hq
  · with_reducible refine wpAny_bind (wpAny_madeBy_exc hC ?_)
    simp only[hsame]
    repeat (first | exact tail | (with_reducible refine wpAny_typeLookup_exc hC hn hmro hlk ?_;rw[hi];simp only[hne]) | wp_step)
theorem type_call_init (F:ObjNewFacts newId){mN:Str→Option Value}{rest:List Value}{kw:List (Str×Value)}{fI:Addr}{oI:Obj}{Q:Fin→Shared→Prop}
    (hC:h.get? C=some (cr.obj C [.type "object"] false newId)) (hn:h.Ns cr.N mN) (hi:mN "__init__" = some (.ref fI))
    (hfI:h.get? fI=some oI) (hfc:oI.cls = .type "function")
    (hq:wpAny (model prog w) A (call (.ref fI) (.ref (h.objs.size+1)::rest) kw) (fun r s'=>r = .none∧Q (.done (.ret (.ref (h.objs.size+1)))) s') E ⟨made2 h C,g,d,t,os⟩) :
    wpAny (model prog w) A (Builtin.«type.__call__» ⟨.ref C::rest,kw⟩) Q E ⟨h,g,d,t,os⟩:=by
  have hmro:mroOf (.type "object")=pure [.type "object"]:=by kernel_rfl
  have hlk:typeLookup (.type "object") "__init__" = pure (some (.builtin "object.__init__")):=by rw[typeLookup_type,builtinLookup_eq_fast];kernel_rfl
  repeat (first | with_reducible refine wpAny_loadPart_at hC ?_ | with_reducible refine wpAny_madeBy_exc hC ?_ | wp_step)
  refine codeAny_call_builtin_code (Code.quiet_builtin _ F.quiet) (obj_new_check F hC ?_)
  refine obj_new_code F hC hn hi ?_
  show wpAny _ _ _ _ _ _
  have hC₁:=Heap.get?_push_of_some { cls := .ref C,dict:=some h.objs.size,data := .plain } (Heap.get?_push_of_some { cls := .type "dict",data := .dict #[] } hC)
  have hfI₁:=Heap.get?_push_of_some { cls := .ref C,dict:=some h.objs.size,data := .plain } (Heap.get?_push_of_some { cls := .type "dict",data := .dict #[] } hfI)
  have hn₁:((h.push { cls := .type "dict",data := .dict #[] }).push { cls := .ref C,dict:=some h.objs.size,data := .plain }).Ns cr.N mN :=
    let ⟨o,es,ep,e,r⟩:=hn;⟨o,es,ep,Heap.get?_push_of_some _ (Heap.get?_push_of_some _ e),r⟩
  have hget:((h.push { cls := .type "dict",data := .dict #[] }).push { cls := .ref C,dict:=some h.objs.size,data := .plain }).get? (h.objs.size+1)=some { cls := .ref C,dict:=some h.objs.size,data := .plain }:=by heap_get
  have hcC:(Value.ref C::[Value.type "object"]).contains (.ref C)=true:=by simp
  unfold isInstance
  repeat (first | with_reducible refine wpAny_loadPart_at hget ?_ | (with_reducible refine wpAny_isSubtype_exc hC₁ ?_;rw[hcC]) | wp_step)
  show wpAny _ _ (typeLookup (.ref C) _) _ _ _
  refine wpAny_typeLookup_exc hC₁ hn₁ hmro hlk ?_
  rw[hi]
  refine wpAny_holding (wpAny_bind ?_)
  unfold bindSpecial
  refine wpAny_bind (wpAny_typeOf (T := "function") ⟨_,hfI₁,hfc⟩ ?_)
  rw[if_pos (by decide)]
  refine wpAny_pure (wpAny_bind (wpAny_mono hq (fun r s' hr=>?_) fun q_ q_ x=>x))
  obtain⟨rfl,hQ⟩:=hr
  wp_walk
  exact hQ
theorem call_cls_init (F:ObjNewFacts newId){mN:Str→Option Value}{rest:List Value}{kw:List (Str×Value)}{fI:Addr}{oI:Obj}{Q:Value→Shared→Prop}
    (hC:h.get? C=some (cr.obj C [.type "object"] false newId)) (hn:h.Ns cr.N mN) (hi:mN "__init__" = some (.ref fI))
    (hfI:h.get? fI=some oI) (hfc:oI.cls = .type "function")
    (hq:wpAny (model prog w) (A.under (.builtin "type.__call__" ⟨.ref C::rest,kw⟩)) (call (.ref fI) (.ref (h.objs.size+1)::rest) kw) (fun r s'=>r = .none∧Q (.ref (h.objs.size+1)) s') E ⟨made2 h C,g,d,t,os⟩) :
    wpAny (model prog w) A (call (.ref C) rest kw) Q E ⟨h,g,d,t,os⟩:=by
  have f1:=tc_lookup
  have f2:=tc_bind (.ref C)
  have hT:(⟨h,g,d,t,os⟩:Shared).TypeIs (.ref C) "type" :=⟨_,hC,rfl⟩
  refine wpAny_call (codeAny_of_tree ?_)
  show wpAny _ _ (callAny (.ref C) _) _ _ _
  repeat (any_goals (first | assumption | with_reducible refine wpAny_loadPart_at hC ?_ | wp_step))
  refine⟨rfl,?_⟩
  refine codeAny_call_builtin_at (Code.quiet_builtin _ (by decide +kernel)) entry_typeCall (wpAny_check_type_call_sub hC (type_call_init F hC hn hi hfI hfc ?_))
  exact hq
end
end
section
open PySem PySem.W PyProof.Rows PySem.Calls
section
variable {prog:Program}{w:World}{A:Around}{s:Shared}
theorem codeAny_call_cellsB {R:Result→Shared→Prop}{a:Addr}{o:Obj}{fd:FuncData}{body:List Stmt}{args:Args}{binds:List (Str×Value)}
    (hroom:A.depth<recursionLimit) (ho:s.heap.get? a=some o) (hdata:o.data = .func fd) (hlim:s.heap.NoLimit) (hcd:s.heap.CodeRec fd.code fd.qualname)
    (hbody:fd.body = .stmts body) (hbind:BindsTo s fd args binds) (hclo:fd.closure=[])
    (hkind:∀ x∈binds,fd.scope.names.lookup x.1=some .local∨(fd.scope.names.lookup x.1=some .cell∧((cellsFrom (s.heap.objs.size+1) fd.scope.names []).lookup x.1).isSome=true))
    (h : ∀ s₁,InCallC s (callEnvC fd s.heap.objs.size a).locals (bindL (callEnvC fd s.heap.objs.size a).kindOf binds fun q_=>none) (callEnvC fd s.heap.objs.size a).cells
        (bindC (callEnvC fd s.heap.objs.size a).kindOf binds fun q_=>none) s₁ →
      wpAny (model prog w) (A.deeper (callEnvC fd s.heap.objs.size a)) (execs body (callEnvC fd s.heap.objs.size a)) (fun f s'=>R (.ok (.ret (match f with | .ret v=>v | _ => .none))) s')
        (fun e s'=>wpAny (model prog w) (A.deeper (callEnvC fd s.heap.objs.size a)) (leaving (callEnvC fd s.heap.objs.size a) e) (fun q_ s''=>R (.error e) s'') (fun e' s''=>R (.error e') s'') s') s₁)
    (hco:fd.scope.isCoroutine=false) (hgen:fd.scope.isGenerator=false) (hk:fd.scope.kind = .function) :
    codeAny (model prog w) A (.call (.ref a) args) R s:=by
  refine codeAny_call_function hroom ho hdata hco hgen hbody hcd (hbind _ _ _ _ ?_)
  rw[hclo]
  refine wpAny_newFunctionEnv_cells hk hkind fun env he s' x=>?_
  subst he
  exact⟨hlim.keeps x.toInCall.keep,codeAny_func (h s' x)⟩
end
section
variable {B:Base}{A:Around}{G:St}{H H':AH}{s:Shared}
theorem InCallC.same {s₀ s₁:Shared}{L:Addr}{m:Str→Option Value}{cells:List (Str×Addr)}{cm:Str→Option Value}(x:InCallC s₀ L m cells cm s₁):∃ h' tk,s₁={ s₀ with heap:=h',toks:=tk }:=by
  obtain⟨h',tk,e,_⟩:=x.done
  exact⟨h',tk,e⟩
theorem CodeG.rec {cv:Value}{q:Str}{h:Heap}(x:CodeG G cv q)(I:Inv B G H h):h.CodeRec cv q:=by
  refine via fun R_ k_=>?_
  obtain⟨c,o,vs,t,a,b,r⟩:=x
  refine k_ ?_
  exact⟨c,o,vs,t,a,I.sub _ _ b,r⟩
theorem enter_top (O:BaseOk B){a:Addr}{fd:FuncData}{T:Tabs}{names:List (List Nat)}{np:Nat}(C:FnCore B a fd T names np){body:List Stmt}(hbody:fd.body = .stmts body){args:List AV}{F:AF}
    (eF:frameOf names.length np args []=some F) {vs:List Value} (I:Inv B G H s.heap) (rs:RepL B G args vs) {ar:Args} (hb:BindsTo s fd ar (((names.take np).map toS).zip vs)) (hroom:A.depth<recursionLimit)
    {Q:Value→Shared→Prop} {E:Value→Shared→Prop}
    (hx:∀ env G1 h1 tk1,env.scope=fd.scope→env.frame=some env.locals→(∀ b,Own fd.scope env b→s.heap.get? b=none)→Step B Pure G s.heap G1 h1→Inv B G1 H h1→FrOK B T fd.scope names env F G1 h1 →
      wpAny (model B.prog B.w) (A.deeper env) (execs body env) (fun f s'=>Q (match f with | .ret v=>v | _ => .none) s') (fun e s'=>wpAny (model B.prog B.w) (A.deeper env) (leaving env e) (fun q_ s''=>E e s'') (fun e' s''=>E e' s'') s') { s with heap:=h1,toks:=tk1 }) :
    wpAny (model B.prog B.w) A (call (.ref a) ar.pos ar.kw) Q E s:=by
  have S:=scopeOk_iff C.sc
  obtain⟨o,ho,hd⟩:=C.obj
  have ho':=I.sub _ _ (I.old _ _ ho C.tab)
  have hcd:s.heap.CodeRec fd.code fd.qualname:=by
    refine via fun R_ k_=>?_
    obtain⟨c,oc,fs,t,e,g,ct,d,q⟩:=C.code
    refine k_ ?_
    exact⟨c,oc,fs,t,e,I.sub _ _ (I.old _ _ g ct),d,q⟩
  have hargs:=(frame_some eF).1
  have hvl:vs.length=np:=by rw[rs.len,hargs]
  have S':=C.sc
  unfold scopeOk at S'
  simp only[Bool.and_eq_true,Bool.not_eq_true'] at S'
  refine wpAny_call (codeAny_call_cellsB hroom ho' hd (I.noLimit O) hcd hbody hb C.clo (fun x hx=>?_) (fun s₁ X=>?_) S'.1.1.1.2 S'.1.1.1.1.2 S.kind)
  · have hm:x.1∈((names.take np).map toS):=by
      have:=List.mem_map_of_mem (f:=Prod.fst) hx
      rw[zip_keys (by rw[List.length_map,List.length_take,hvl];exact(Nat.min_eq_left C.hnp).symm)] at this
      exact this
    obtain⟨n,hn,e⟩:=List.mem_map.mp hm
    rw[←e]
    rcases C.par n hn with k | k
    · exact .inl (isKind_iff.mp k)
    · exact .inr ⟨isKind_iff.mp k,cells_some _ _ _ _ (.inl (wK (isKind_iff.mp k)))⟩
  · obtain⟨G1,I1,st1,P1⟩:=frOK_top C eF I rs X
    obtain⟨h1,tk1,rfl⟩:=InCallC.same X
    refine hx _ G1 h1 tk1 rfl rfl (fun b hb=>?_) st1 I1 P1
    rcases hb with hb | ⟨x,_,hb⟩
    · rw[hb];exact Heap.get?_end _
    · exact Heap.get?_none_of_le (Nat.le_of_lt (X.above _ _ (wK hb)))
theorem call_top (O:BaseOk B){a:Addr}{fd:FuncData}{T:Tabs}{names:List (List Nat)}{np:Nat}(C:FnCore B a fd T names np){body:List Stmt}(hbody:fd.body = .stmts body){args:List AV}{F F':AF}
    (eF:frameOf names.length np args []=some F) {vs:List Value} (I:Inv B G H s.heap) (rs:RepL B G args vs) {ar:Args} (hb:BindsTo s fd ar (((names.take np).map toS).zip vs)) (hroom:A.depth<recursionLimit)
    {ma:AF→AM (Flo×AF)} (hx:∀ env,env.scope=fd.scope→ExS B (A.deeper env) T fd.scope names env (execs body env) ma) {fl:Flo} (eq:ma F H=some ((fl,F'),H'))
    {z:AV} (hz:z=fl.val):Yields B A (call (.ref a) ar.pos ar.kw) G H H' z s:=fun Q E hQ=>by
  subst hz
  refine enter_top O C hbody eF I rs hb hroom fun env G1 h1 tk1 hsc q_ fresh st1 I1 P1=>?_
  refine hx env hsc F _ G1 H fl F' H' P1 I1 eq _ _ fun f G2 h2 t2 s2 I2 P2 r2=>?_
  have st:=(st1.pure.trans s2).shut fresh
  have done:∀ v,Rep B G2 fl.val v→Q v { s with heap:=h2,toks:=t2 }:=fun v r=>hQ v G2 h2 t2 st I2 r
  cases fl with
  | next =>
    cases f with
    | next=>exact done .none rfl
    | _=>exact r2.elim
  | ret v =>
    cases f with
    | ret u=>exact done u r2
    | _=>exact r2.elim
theorem call_clo (O:BaseOk B){k:Nat}{caps:List (Nat×AV)}{args:List AV}{F:AF}{v:Value}
    (eF:frameOf (B.cloN k).length (B.cloA k) args caps=some F) {vs:List Value} (I:Inv B G H s.heap) (rv:Rep B G (.clo k caps) v) (rs:RepL B G args vs) (hroom:A.depth<recursionLimit) {z:AV}
    (hx:∀ (env:Env) (fd:FuncData),env.scope=fd.scope→CloOk B k fd→match fd.body with
      | .expr x=>∃ mx:AF→AM AV,(∀ F,EvE B (A.deeper env) B.T.bare fd.scope (B.cloN k) env F x (mx F))∧mx F H=some (z,H')
      | .stmts xs=>∃ ma:AF→AM (Flo×AF),ExS B (A.deeper env) B.T.bare fd.scope (B.cloN k) env (execs xs env) ma∧∃ fl F',ma F H=some ((fl,F'),H')∧z=fl.val):Callee s.heap v∧Yields B A (call v vs) G H H' z s:=by
  refine via fun R_ k_=>?_
  obtain⟨a,fd,rfl,hg,C,cd,K,rc⟩:=rv
  have C0:=C
  obtain⟨hp,hpl,hnp,hs,hc,hgl,hb,hd,hk,hbody⟩:=C
  refine k_ ?_
  clear hbody
  generalize hN:B.cloN k=names at *
  generalize hA:B.cloA k=np at *
  have ho:=I.sub _ _ hg
  refine⟨.func ho rfl,fun Q E hQ=>?_⟩
  have S:=scopeOk_iff hs
  obtain⟨ea,_⟩:=frame_some eF
  have hvl:vs.length=np:=by rw[rs.len,ea]
  have hlt:(names.take np).length=np:=by rw[List.length_take];exact Nat.min_eq_left hnp
  have nd:(names.take np).Nodup:=List.Nodup.sublist (List.take_sublist _ _) S.nod
  have hbind:=bind_plain (fd:=fd) (vs:=vs) hp hd hk (by rw[hvl,hlt]) nd
  have S':=hs
  unfold scopeOk at S'
  simp only[Bool.and_eq_true,Bool.not_eq_true'] at S'
  have hloc:∀ x∈((names.take np).map toS).zip vs,fd.scope.names.lookup x.1=some .local:=fun x hx=>by
    have hm:x.1∈((names.take np).map toS):=by
      have:=List.mem_map_of_mem (f:=Prod.fst) hx
      rw[zip_keys (by rw[List.length_map,hlt,hvl])] at this
      exact this
    obtain⟨n,hn,e⟩:=List.mem_map.mp hm
    rw[←e]
    unfold parsLocal at hpl
    rw[List.all_eq_true] at hpl
    exact isKind_iff.mp (hpl n hn)
  have enter:∀ h',h'.Ns s.heap.objs.size (fun x=>(((names.take np).map toS).zip vs).reverse.lookup x)→Heap.SameBut s.heap.objs.size (s.heap.push { cls := .type "frame",data := .dict #[] }) h' →
      h'.NoLimit∧Inv B G H h'∧Step B Pure G s.heap G h'∧FrOK B B.T.bare fd.scope names (newEnv fd.scope s.heap.objs.size fd.globals fd.closure (fd.qualname ++ ".<locals>.") (some a) fd.code none fd.builtins) F G h':=fun h' hns sb=>by
    have keep:∀ b o,s.heap.get? b=some o→h'.get? b=some o:=fun b o e=>sb.extBut b o (Nat.ne_of_lt (Heap.lt_size e)) (Heap.get?_push_of_some _ e)
    have I':=I.keeps fun b o q_ e=>keep b o e
    exact⟨(I.noLimit O).keeps keep,I',Step.priv keep,frOK_clo hN.symm hA.symm C0 K eF I' rs rc (I.gNew (Nat.le_refl _)) (fun m=>absurd (I.lt m) (Nat.lt_irrefl _)) (fun m=>absurd (I.tabLt m) (Nat.lt_irrefl _)) hns⟩
  have nocell:∀ x,jH fd.scope x .cell=false:=fun x=>by
    cases e:jH fd.scope x .cell with
    | false=>rfl
    | true=>exact absurd rfl (hc _ (wK (isKind_iff.mp e)))
  have fresh:∀ b,Own fd.scope (newEnv fd.scope s.heap.objs.size fd.globals fd.closure (fd.qualname ++ ".<locals>.") (some a) fd.code none fd.builtins) b→s.heap.get? b=none:=fun b hb=>by
    rcases hb with hb | ⟨x,hx,_⟩
    · rw[hb];exact Heap.get?_end _
    · rw[nocell] at hx;cases hx
  have hcd:=cd.rec I
  have hx:=hx (newEnv fd.scope s.heap.objs.size fd.globals fd.closure (fd.qualname ++ ".<locals>.") (some a) fd.code none fd.builtins) fd rfl C0
  cases hfb:fd.body with
  | expr x =>
      rw[hfb] at hx
      obtain⟨mx,hmx,eq⟩:=hx
      refine wpAny_call (kla_callFunE hroom ho rfl S'.1.1.1.2 S'.1.1.1.1.2 hfb hcd ?_)
      rw[hbind]
      refine wpAny_pure (wpAny_newFunctionEnv hc hloc (fun h' hns sb=>?_) S.kind)
      obtain⟨e1,I',st',P'⟩:=enter h' hns sb
      refine⟨e1,kla_codeExpr ?_⟩
      refine hmx F _ G H z H' P' I' eq _ _ fun v G2 h2 t2 s2 I2 P2 r2=>?_
      exact hQ v G2 h2 t2 (st'.trans s2) I2 r2
  | stmts xs =>
      rw[hfb] at hx
      obtain⟨ma,hma,fl,F',eq,rfl⟩:=hx
      refine wpAny_call (codeAny_call_function hroom ho rfl S'.1.1.1.2 S'.1.1.1.1.2 hfb hcd ?_)
      rw[hbind]
      refine wpAny_pure (wpAny_newFunctionEnv hc hloc (fun h' hns sb=>?_) S.kind)
      obtain⟨e1,I',st',P'⟩:=enter h' hns sb
      refine⟨e1,codeAny_func ?_⟩
      refine hma F _ G H fl F' H' P' I' eq _ _ fun f G2 h2 t2 s2 I2 P2 r2=>?_
      have st:=(st'.pure.trans s2).shut fresh
      have done:∀ v,Rep B G2 fl.val v→Q v { s with heap:=h2,toks:=t2 }:=fun v r=>hQ v G2 h2 t2 st I2 r
      cases fl with
      | next =>
        cases f with
        | next=>exact done .none rfl
        | _=>exact r2.elim
      | ret v =>
        cases f with
        | ret u=>exact done u r2
        | _=>exact r2.elim
end
end
section
open PySem PySem.W PyProof.Rows PySem.Calls
structure CodeOk (B:Base):Prop where
  hd:∀ q∈B.tabs,CodeHd B.h₀ q.1 q.2∧q.1 ∉ B.tabP
  one:∀ q∈B.tabs,∀ q'∈B.tabs,q.2=q'.2→q=q'
  bi:∃ bm o,B.mg "__builtins__" = some (.ref bm)∧bm≠builtinsNs∧bm≠mainGlobals∧bm ∉ B.tabP∧B.h₀.get? bm=some o∧o.cls = .type "module" ∧ o.dict=some builtinsNs∧o.data = .plain
noncomputable def clos (env:Env):List (Str×NameKind)→List (Str×Addr)→List (Str×Addr)
  | [],acc=>acc
  | p::r,acc=>clos env r (if p.2 = .free then(p.1,(env.cells.lookup p.1).getD 0)::acc else acc)
theorem clos_for {env:Env}{scope:Scope}(h:∀ p∈scope.names,p.2 = .free→∃ c,env.cells.lookup p.1=some c):closureFor scope env=pure (clos env scope.names []):=by
  have key : ∀ (l:List (Str×NameKind)) (acc:List (Str×Addr)),(∀ p∈l,p.2 = .free→∃ c,env.cells.lookup p.1=some c) →
      (forIn l acc fun(x:Str×NameKind) (r:List (Str×Addr))=>(if x.2 == .free then do let a ←cellOf env x.1;pure (ForInStep.yield ((x.1,a)::r)) else pure (ForInStep.yield r):Sem (ForInStep (List (Str×Addr)))))=pure (clos env l acc):=by
    intro l
    induction l with
    | nil=>intro acc _;rfl
    | cons p l ih =>
      intro acc h
      rw[List.forIn_cons]
      have h':∀ q∈l,q.2 = .free→∃ c,env.cells.lookup q.1=some c:=fun q hq=>h q (List.mem_cons_of_mem _ hq)
      by_cases hp:p.2 = .free
      · obtain⟨c,hc⟩:=h p List.mem_cons_self hp
        have e:cellOf env p.1=pure c:=by unfold cellOf;rw[hc]
        rw[hp]
        simp only[beq_self_eq_true,if_true,e,pure_bind]
        rw[ih _ h']
        show _=pure (clos env l (if p.2 = .free then(p.1,(env.cells.lookup p.1).getD 0)::acc else acc))
        rw[if_pos hp,hc];rfl
      · have hb:(p.2==NameKind.free)=false:=by
          cases q:p.2 <;> first | rfl | exact absurd q hp
        rw[hb]
        simp only[Bool.false_eq_true,if_false,pure_bind]
        rw[ih _ h']
        show _=pure (clos env l (if p.2 = .free then _ else acc))
        rw[if_neg hp]
  have:=key scope.names [] h
  unfold closureFor
  first
    | exact(by simpa using this)
    | (rw[show(forIn scope.names ([]:List (Str×Addr)) fun x cs=>_)=pure (clos env scope.names []) from this];rfl)
set_option tactic.hygienic true in
theorem clos_acc (env:Env)(x:Str):∀ (l:List (Str×NameKind))(acc:List (Str×Addr)),(∀ k,(x,k)∈l→k ≠ .free)→(clos env l acc).lookup x=acc.lookup x
  | [],_,_=>rfl
  | p :: l,acc,h=>by
    show(clos env l _).lookup x=_
    rw[clos_acc env x l _ fun k hk=>h k (List.mem_cons_of_mem _ hk)]
    split
    · rename_i hp
      rw[List.lookup_cons]
      split
      · rename_i e
        have e':x=p.1:=by simpa using e
        exact absurd hp (h p.2 (by rw[e'];exact List.mem_cons_self))
      · rfl
    · rfl
theorem clos_at (env:Env)(x:Str):∀ (l:List (Str×NameKind))(acc:List (Str×Addr)),(l.map (·.1)).Nodup→(x,NameKind.free)∈l→(clos env l acc).lookup x=some ((env.cells.lookup x).getD 0)
  | [],_,_,h=>by cases h
  | p :: l,acc,hn,h=>by
    rw[List.map_cons,List.nodup_cons] at hn
    rcases List.mem_cons.mp h with e | h
    · subst e
      show(clos env l _).lookup x=_
      rw[if_pos rfl,clos_acc env x l _ fun k hk=>absurd (List.mem_map_of_mem (f:=Prod.fst) hk) hn.1]
      rw[List.lookup_cons,beq_self_eq_true]
    · exact clos_at env x l _ hn.2 h
section
variable {B:Base}{A:Around}{T:Tabs}{sc:Scope}{ns:List (List Nat)}{env:Env}{F:AF}{G:St}{H:AH}{s:Shared}
set_option tactic.hygienic true in
theorem caps_some {F:AF}:∀ {caps:List (Nat×Nat)}{l:List (Nat×AV)},capsOf F caps=some l→(∀ c∈caps,∃ v,F[c.1]? = some (some v)∧(c.2,v)∈l)∧∀ p∈l,∃ c∈caps,c.2=p.1∧F[c.1]? = some (some p.2)
  | [],l,e=>by cases e;exact⟨fun q_ h=>(List.not_mem_nil h).elim,fun q_ h=>(List.not_mem_nil h).elim⟩
  | (o, i) :: r,l,e=>by
    unfold capsOf at e
    split at e
    · rename_i v l' h1 h2
      cases e
      obtain⟨a,b⟩:=caps_some h2
      refine⟨fun c hc=>?_,fun p hp=>?_⟩
      · rcases List.mem_cons.mp hc with rfl | hc
        · exact⟨v,h1,List.mem_cons_self⟩
        · obtain⟨v',x,y⟩:=a c hc
          exact⟨v',x,List.mem_cons_of_mem _ y⟩
      · rcases List.mem_cons.mp hp with rfl | hp
        · exact⟨_,List.mem_cons_self,rfl,h1⟩
        · obtain⟨c,x,y,z⟩:=b p hp
          exact⟨c,List.mem_cons_of_mem _ x,y,z⟩
    · cases e
set_option tactic.hygienic true in
theorem codeAmong_split {pos:Pos}{a b:Int}{c cv:Value}(l:List Value)(h:TriplesOk l)(e:codeAmong pos (l++[rawInt a,rawInt b,c])=some cv):codeAmong pos l=some cv∨cv=c:=by
  fun_induction TriplesOk l with
  | case1 =>
    simp only[List.nil_append,codeAmong,rawInt] at e
    split at e
    · cases e;exact .inr rfl
    · cases e
  | case2 a' t b' u x rest ih =>
    simp only[List.cons_append,codeAmong] at e ⊢
    split at e
    · rename_i q;rw[if_pos q];exact .inl e
    · rename_i q;rw[if_neg q];exact ih h e
  | case3=>exact h.elim
structure ClosOk (sc sc':Scope)(names names':List (List Nat))(caps:List (Nat×Nat)):Prop where
  scp:scopeOk sc' names'=true
  cell:∀ p∈sc'.names,p.2 ≠ .cell
  free:∀ p∈sc'.names,p.2 = .free→∃ c∈caps,names'[c.2]? = some p.1.cps.toList
  cap:∀ c∈caps,∃ x,names[c.1]? = some x∧names'[c.2]? = some x∧jH sc' (toS x) .free=true∧(jH sc (toS x) .cell=true∨jH sc (toS x) .free=true)
set_option tactic.hygienic true in
theorem closOk_iff {sc sc':Scope}{names names':List (List Nat)}{caps:List (Nat×Nat)}(h:closOk sc sc' names names' caps=true):ClosOk sc sc' names names' caps:=by
  unfold closOk at h
  simp only[Bool.and_eq_true,List.all_eq_true] at h
  obtain⟨⟨⟨h1,h2⟩,h3⟩,h4⟩:=h
  refine⟨h1,fun p hp=>by have:=h2 p hp;simpa using this,fun p hp e=>?_,fun c hc=>?_⟩
  · have:=h3 p hp
    rw[Bool.or_eq_true] at this
    rcases this with q | q
    · rw[e] at q;exact absurd q (by decide)
    · rw[List.any_eq_true] at q
      obtain⟨c,hc,d⟩:=q
      exact⟨c,hc,of_decide_eq_true d⟩
  · have:=h4 c hc
    split at this
    · rename_i x y hx hy
      simp only[Bool.and_eq_true,decide_eq_true_eq,Bool.or_eq_true] at this
      obtain⟨⟨e,k1⟩,k2⟩:=this
      subst e
      exact⟨x,hx,hy,k1,k2⟩
    · cases this
theorem toS_of (x:Str):toS x.cps.toList=x:=by unfold toS;simp
theorem handed {sc':Scope}{names':List (List Nat)}{caps:List (Nat×Nat)}(K:ClosOk sc sc' ns names' caps)(P:FrOK B T sc ns env F G s.heap){l:List (Nat×AV)}(e:capsOf F caps=some l) :
    (∀ p∈sc'.names,p.2 = .free→∃ c,env.cells.lookup p.1=some c)∧RepC B G names' (clos env sc'.names []) l ∧
      (∀ p∈sc'.names,p.2 = .free→∃ c∈l,names'[c.1]? = some p.1.cps.toList)∧∀ c∈l,∃ n,names'[c.1]? = some n∧jH sc' (toS n) .free=true:=by
  obtain⟨a,b⟩:=caps_some e
  have S:=scopeOk_iff K.scp
  have cellAt:∀ c∈caps,∃ x k,ns[c.1]? = some x∧names'[c.2]? = some x∧jH sc' (toS x) .free=true∧env.cells.lookup (toS x)=some k∧CelOk B G s.heap sc env (toS x) k F[c.1]?:=fun c hc=>by
    refine via fun R_ k_=>?_
    obtain⟨x,h1,h2,h3,h4⟩:=K.cap c hc
    obtain⟨k,h5,h6⟩:=P.cel c.1 x h1 h4
    refine k_ ?_
    exact⟨x,k,h1,h2,h3,h5,h6⟩
  have f1:∀ p∈sc'.names,p.2 = .free→∃ c,env.cells.lookup p.1=some c:=fun p hp hf=>by
    refine via fun R_ k_=>?_
    obtain⟨c,hc,e1⟩:=K.free p hp hf
    obtain⟨x,k,_,h2,_,h5,_⟩:=cellAt c hc
    refine k_ ?_
    rw[e1] at h2;cases h2
    rw[toS_of] at h5
    exact⟨k,h5⟩
  refine⟨f1,?_,fun p hp hf=>?_,fun c hc=>?_⟩
  · have all:∀ p∈l,∃ n c o v,names'[p.1]? = some n∧(clos env sc'.names []).lookup (toS n)=some c∧G.g c=some o∧o.data = .cell (some v)∧Rep B G p.2 v:=fun p hp=>by
      refine via fun R_ k_=>?_
      obtain⟨c,hc,e1,e2⟩:=b p hp
      obtain⟨x,k,h1,h2,h3,h5,h6⟩:=cellAt c hc
      refine k_ ?_
      rw[e2] at h6
      refine via fun R_ k_=>?_
      obtain⟨o,u,g,d,r⟩:=h6
      refine k_ ?_
      refine⟨x,k,o,u,by rw[←e1];exact h2,?_,g,d,r⟩
      rw[clos_at env (toS x) sc'.names [] S.keys (wK (isKind_iff.mp h3)),h5];rfl
    clear e a b
    induction l with
    | nil=>trivial
    | cons p l ih=>exact⟨all p List.mem_cons_self,ih fun q hq=>all q (List.mem_cons_of_mem _ hq)⟩
  · refine via fun R_ k_=>?_
    obtain⟨c,hc,e1⟩:=K.free p hp hf
    obtain⟨v,_,h⟩:=a c hc
    refine k_ ?_
    exact⟨_,h,e1⟩
  · refine via fun R_ k_=>?_
    obtain⟨k,hk,e1,e2⟩:=b c hc
    obtain⟨x,_,h2,h3,_⟩:=K.cap k hk
    refine k_ ?_
    exact⟨x,by rw[←e1];exact h2,h3⟩
set_option tactic.hygienic true in
theorem Inv.newTab {h h':Heap}(I:Inv B G H h)(C:CodeOk B){q:Addr×Addr}{c':Addr}{oc:Obj}{ps:Array Value}(hq:q∈B.tabs)(k:Heap.ExtBut q.2 h h')(hP:h'.get? q.2=some (tabObj ps))(ht:TriplesOk ps.toList)
    (hc:h'.get? c'=some oc) (hge:h.objs.size≤c') (hcod:∀ pos cv,codeAmong pos ps.toList=some cv→CodeG (G.put c' oc) cv (B.siteQ q.1)):Inv B (G.put c' oc) H h'∧Step B Pure G h (G.put c' oc) h':=by
  have hPt:q.2∈B.tabP:=List.mem_map_of_mem hq
  have gc:G.g c'=none:=I.gNew hge
  have mono:∀ b o,G.g b=some o→(G.put c' oc).g b=some o:=fun b o e=>by
    simp only[St.put]
    split
    · rename_i x;subst x;rw[gc] at e;cases e
    · exact e
  have cn:c' ∉ G.adr:=fun m=>absurd (I.lt m) (Nat.not_lt.mpr hge)
  have ct:c' ∉ B.tabP:=fun m=>absurd (I.tabLt m) (Nat.not_lt.mpr hge)
  have kk:∀ b o,b ∉ B.tabP→h.get? b=some o→h'.get? b=some o:=fun b o hb e=>k b o (fun x=>hb (x▸hPt)) e
  refine⟨⟨fun b o e=>?_,fun b o e hb=>mono _ _ (I.old b o e hb),fun q' hq'=>?_,fun P hP=>?_,I.len,I.nod,fun a ha=>?_,fun i o p a b=>?_⟩,⟨fun b o q_ e=>?_,mono,fun b o e q_=>?_,⟨[],(List.append_nil _).symm,fun q_ hm=>(List.not_mem_nil hm).elim⟩,fun b o q_ q_ hb e=>kk b o hb e⟩⟩
  · simp only[St.put] at e
    split at e
    · rename_i x;subst x;cases e;exact hc
    · refine kk b o (fun m=>?_) (I.sub b o e)
      rw[I.tabG b m] at e;cases e
  · by_cases e:q'.2=q.2
    · have:=C.one q' hq' q hq e
      subst this
      exact⟨ps,hP,ht,hcod⟩
    · obtain⟨ps',x,y,z⟩:=I.tabs q' hq'
      exact⟨ps',k _ _ e x,y,fun pos cv w=>(z pos cv w).mono mono⟩
  · simp only[St.put]
    rw[if_neg (fun x:P=c'=>ct (x▸hP))]
    exact I.tabG P hP
  · obtain⟨x,y,o,z⟩:=I.off a ha
    refine⟨?_,y,o,kk a o y z⟩
    simp only[St.put]
    rw[if_neg (fun e:a=c'=>cn (e▸ha))];exact x
  · exact AObjOk.mono mono (fun q_ q_ e=>e) (fun o' e=>kk _ _ (I.off _ (mem_adr1 b)).2.1 e) (fun d o' e1 e=>kk _ _ (I.off _ (mem_adr2 b e1)).2.1 e) (I.objs i o p a b)
  · by_cases x:b=q.2
    · exact⟨_,x▸hP⟩
    · exact⟨o,k b o x e⟩
  · simp only[St.put]
    rw[if_neg (fun x:b=c'=>absurd (Heap.lt_size e) (Nat.not_lt.mpr (x▸hge)))]
theorem fn_made {h:Heap}{tk:Tok}{f:Nat}{fd:FuncData}{l:List (Nat×AV)}{Q:Value→Shared→Prop}(I:Inv B G H h)(C:CloOk B f fd)(cd:CodeG G fd.code fd.qualname)(K:CapsOk (B.cloN f) fd l)(rc:RepC B G (B.cloN f) fd.closure l)
    (hQ:∀ G' h' ,Step B Pure G h G' h'→Inv B G' H h'→Rep B G' (.clo f l) (.ref h.objs.size)→Q (.ref h.objs.size) { s with heap:=h',toks:=tk }):Q (.ref h.objs.size) { s with heap:=h.push (fnO fd),toks:=tk }:=by
  have st:=Step.alloc I (fnO fd)
  exact hQ _ _ st (I.alloc _ rfl) ⟨_,fd,rfl,St.put_at ..,C,cd.mono st.mono,K,RepC.mono st.mono (fun q_ q_ e=>e) rc⟩
structure LamOk (B:Base):Prop where
  ex:∀ k names args body sc,B.T.lamE k names args body sc=true→names=B.cloN k∧plainArgs args ((B.cloN k).take (B.cloA k))=true∧parsLocal sc ((B.cloN k).take (B.cloA k))=true∧B.cloA k≤(B.cloN k).length∧B.cloE k body sc
  st:∀ k names args body sc,B.T.lamS k names args body sc=true→names=B.cloN k∧plainArgs args ((B.cloN k).take (B.cloA k))=true∧parsLocal sc ((B.cloN k).take (B.cloA k))=true∧B.cloA k≤(B.cloN k).length∧B.cloS k body sc
set_option tactic.hygienic true in
theorem ev_lam (O:BaseOk B)(CO:CodeOk B)(LO:LamOk B){k:Nat}{names:List (List Nat)}{caps:List (Nat×Nat)}{args:Arguments}{body:Expr}{sc':Scope}{p:Pos}
    (h0:T.lamE k names args body sc'=true) (h4:closOk sc sc' ns names caps=true) (h5:T.sfx=some [60,108,97,109,98,100,97,62]) :
    EvE B A T sc ns env F (.Lambda args body sc' p) (zZ (jW (capsOf F caps)) fun l=>zH (.clo k l)):=fun s G H z H' P I eq Q E hQ=>by
  obtain⟨l,H1,e0,eq1⟩:=zJ eq
  obtain⟨e1,rfl⟩:=ZW e0
  obtain⟨rfl,rfl⟩:=zF eq1
  obtain⟨rfl,h1,h2,h3,h6⟩:=LO.ex _ _ _ _ _ (P.tl _ _ _ _ _ h0)
  have K:=closOk_iff h4
  obtain⟨f1,rc,k1,k2⟩:=handed K P e1
  obtain⟨q,hq,ec,eq'⟩:=P.site _ h5
  have hqual:B.siteQ q.1=env.qual ++ "<lambda>" :=by rw[eq'];rfl
  have hdef:defaultsOf args env=([],[]):=by
    unfold plainArgs at h1
    simp only[Bool.and_eq_true,List.isEmpty_iff] at h1
    rw[defaultsOf_eq,h1.1.1.2,h1.1.1.1.1.2];rfl
  refine via fun R_ k_=>?_
  obtain⟨hd,hqt⟩:=CO.hd q hq
  obtain⟨ps,hP,ht,hcod⟩:=I.tabs q hq
  have hPt:q.2∈B.tabP:=List.mem_map_of_mem hq
  have hkeep:CodeHd s.heap q.1 q.2:=by
    obtain⟨o,vs,file,tf,flags,tg,inF,text,tt,e,r⟩:=hd
    exact⟨o,vs,file,tf,flags,tg,inF,text,tt,I.sub _ _ (I.old _ _ e hqt),r⟩
  obtain⟨bm,ob,b1,b2,b3,b4,b5,b6⟩:=CO.bi
  refine k_ ?_
  have hb:s.heap.BuiltinsAt B.mg q.2:=⟨bm,ob,b1,b2,b3,fun e=>b4 (e▸hPt),I.sub _ _ (I.old _ _ b5 b4),b6⟩
  have hg:=I.ns O.glbT O.glb
  have hgP:mainGlobals≠q.2:=fun e=>O.glbT (e▸hPt)
  have hcl:=clos_for f1
  have C:∀ fd:FuncData,fd.params=args→fd.scope=sc'→fd.globals=mainGlobals→fd.builtins=builtinsNs→fd.defaults = .none→fd.kwdefaults = .none→fd.body = .expr body→CloOk B k fd:=fun fd a1 a2 a3 a4 a5 a6 a7=>by
    refine⟨a1▸h1,a2▸h2,h3,a2▸K.scp,a2▸K.cell,a3,a4,a5,a6,?_⟩
    rw[a7,a2];exact h6
  refine kla_eval hdef ?_
  cases hc:codeAmong p ps.toList with
  | some cv =>
    refine kla_makeFunctionHit (mg:=B.mg) hcl P.glb hg ec hkeep hP ht hc hb fun ctv h' tk k hsz=>?_
    have I':=I.keeps fun b o q_ e=>k b o e
    have cd:CodeG G cv (env.qual ++ "<lambda>"):=hqual▸hcod p cv hc
    refine fn_made (s:=s) I' (C _ rfl rfl rfl rfl rfl rfl rfl) cd ⟨k1,k2⟩ rc fun G2 h2 s2 I2 r2=>?_
    have st:=(Step.priv (B:=B) (G:=G) k).trans s2
    exact hQ _ G2 h2 tk st I2 (P.step st) r2
  | none =>
    refine kla_makeFunction (mg:=B.mg) hcl P.glb hg ec hkeep hP ht hc hgP hb fun c' ctv h' tk hx hge hlt hrec htb=>?_
    refine via fun R_ k_=>?_
    obtain⟨c2,oc,vs,t,e2,hoc,hdc,hv⟩:=hrec
    refine k_ ?_
    cases e2
    have cdn:CodeG (G.put c' oc) (.ref c') (env.qual ++ "<lambda>"):=⟨c',oc,vs,t,rfl,St.put_at ..,hdc,hv⟩
    have hl:(ps ++ #[rawInt p.line,rawInt p.col,Value.ref c']).toList=ps.toList++[rawInt p.line,rawInt p.col,.ref c']:=by simp
    have gc:G.g c'=none:=I.gNew hge
    have mono:∀ b o,G.g b=some o→(G.put c' oc).g b=some o:=fun b o e=>by
      simp only[St.put]
      split
      · rename_i x;subst x;rw[gc] at e;cases e
      · exact e
    obtain ⟨I1,s1⟩:=I.newTab CO hq hx htb (by rw[hl];exact TriplesOk_snoc _ _ _ _ ht) hoc hge (fun pos cv e=>by
      rw[hl] at e
      rw[hqual]
      rcases codeAmong_split _ ht e with e | e
      · exact hqual▸(hcod pos cv e).mono mono
      · subst e;exact cdn)
    refine fn_made (s:=s) I1 (C _ rfl rfl rfl rfl rfl rfl rfl) cdn ⟨k1,k2⟩ (RepC.mono mono (fun q_ q_ e=>e) rc) fun G2 h2 s2 I2 r2=>?_
    exact hQ _ G2 h2 tk (s1.trans s2) I2 (P.step (s1.trans s2)) r2
end
end
section
open PySem PySem.W PyProof.Rows PySem.Calls
section
variable {B:Base}{A:Around}{T:Tabs}{sc:Scope}{ns:List (List Nat)}{env:Env}
theorem ann_none {params:Arguments}{ps:List (List Nat)}(h:plainArgs params ps=true):annTrees params none env=[]:=by
  unfold plainArgs at h
  simp only[Bool.and_eq_true,List.isEmpty_iff,Option.isNone_iff_eq_none,decide_eq_true_eq,List.all_eq_true] at h
  refine via fun R_ k_=>?_
  obtain⟨⟨⟨⟨⟨⟨⟨h1,h2⟩,h3⟩,h4⟩,h5⟩,h6⟩,h7⟩,h8⟩:=h
  refine k_ ?_
  cases params with
  | mk po a va ko kd kwa d =>
    dsimp only at h1 h2 h3 h4 h5 h6 h7 h8
    subst h1 h2 h3 h4 h5 h6
    unfold annTrees
    have : ∀ (l:List Arg),(∀ x∈l,x.annotation=none)→annotationsOf l env=[]:=fun l=>by
      induction l with
      | nil=>intro _;rfl
      | cons x l ih =>
        intro h
        have hx:=h x List.mem_cons_self
        have hr:=ih fun y hy=>h y (List.mem_cons_of_mem _ hy)
        cases x
        dsimp only at hx
        subst hx
        exact hr
    simp only[List.append_nil,Option.toList]
    rw[this a h8]
    rfl
set_option tactic.hygienic true in
theorem ex_defn (O:BaseOk B)(CO:CodeOk B)(LO:LamOk B){k:Nat}{names:List (List Nat)}{i:Nat}{n w:List Nat}{name:Str}{caps:List (Nat×Nat)}{args:Arguments}{body:List Stmt}{sc':Scope}{p:Pos}
    (hn:ns[i]? = some n) (hx:isS n name=true) (hk:jH sc name .local=true) (h0:T.lamS k names args body sc'=true) (h4:closOk sc sc' ns names caps=true) (h5:T.sfx=some w) (hw:isS w name=true) :
    ExS B A T sc ns env (exec (.FunctionDef name args body [] none [] sc' none name p) env) (fun F=>zZ (jW (capsOf F caps)) fun l=>zH (.next,F.set i (some (.clo k l)))):=fun F s G H fl F' H' P I eq Q E hQ=>by
  obtain⟨l,H1,e0,eq1⟩:=zJ eq
  obtain⟨e1,rfl⟩:=ZW e0
  obtain⟨e2,rfl⟩:=zF eq1
  cases e2
  obtain⟨rfl,h1,h2,h3,h6⟩:=LO.st _ _ _ _ _ (P.ts _ _ _ _ _ h0)
  have K:=closOk_iff h4
  obtain⟨f1,rc,k1,k2⟩:=handed K P e1
  obtain⟨q,hq,ec,eq'⟩:=P.site _ h5
  rw[←isS_eq hw] at eq'
  have hkl:=P.kl _ hk
  have hqn:qualnameIn env name name=env.qual++name:=by
    unfold qualnameIn
    rw[hkl];rfl
  have hpa:=h1
  unfold plainArgs at hpa
  simp only[Bool.and_eq_true,List.isEmpty_iff] at hpa
  refine via fun R_ k_=>?_
  obtain⟨hd,hqt⟩:=CO.hd q hq
  obtain⟨ps,hP,ht,hcod⟩:=I.tabs q hq
  have hPt:q.2∈B.tabP:=List.mem_map_of_mem hq
  have hkeep:CodeHd s.heap q.1 q.2:=by
    obtain⟨o,vs,file,tf,flags,tg,inF,text,tt,e,r⟩:=hd
    exact⟨o,vs,file,tf,flags,tg,inF,text,tt,I.sub _ _ (I.old _ _ e hqt),r⟩
  obtain⟨bm,ob,b1,b2,b3,b4,b5,b6⟩:=CO.bi
  refine k_ ?_
  have hb:s.heap.BuiltinsAt B.mg q.2:=⟨bm,ob,b1,b2,b3,fun e=>b4 (e▸hPt),I.sub _ _ (I.old _ _ b5 b4),b6⟩
  have hg:=I.ns O.glbT O.glb
  have hgP:mainGlobals≠q.2:=fun e=>O.glbT (e▸hPt)
  have hcl:=clos_for f1
  have C:∀ fd:FuncData,fd.params=args→fd.scope=sc'→fd.globals=mainGlobals→fd.builtins=builtinsNs→fd.defaults = .none→fd.kwdefaults = .none→fd.body = .stmts body→CloOk B k fd:=fun fd a1 a2 a3 a4 a5 a6 a7=>by
    refine⟨a1▸h1,a2▸h2,h3,a2▸K.scp,a2▸K.cell,a3,a4,a5,a6,?_⟩
    rw[a7,a2];exact h6
  have fin:∀ {v:Value} {G2:St} {h2:Heap} {tk:Tok},Step B Pure G s.heap G2 h2→Inv B G2 H' h2→Rep B G2 (.clo k l) v →
      wpAny (model B.prog B.w) A (storeName env name v) (fun q_ s''=>Q .next s'') E { s with heap:=h2,toks:=tk }:=fun st I2 r2=>by
    rw[isS_eq hx]
    have hk':jH sc (toS n) (if false=true then .cell else .local)=true:=by rw[←isS_eq hx];exact hk
    exact store_name (c:=false) (P.step st) I2 hn hk' (fun h=>nomatch h) r2 fun G3 h3 tk3 s3 I3 P3=>hQ _ G3 h3 tk3 (st.pure.trans s3) I3 P3 trivial
  refine nestDef_K hpa.1.1.2 hpa.1.1.1.1.2 (ann_none h1) ?_
  rw[hqn]
  cases hc:codeAmong p ps.toList with
  | some cv =>
    refine makeFunction_hit (mg:=B.mg) hcl P.glb hg ec hkeep hP ht hc hb fun ctv doc h' tk k hsz=>?_
    have I':=I.keeps fun b o q_ e=>k b o e
    have cd:CodeG G cv (env.qual++name):=eq'▸hcod p cv hc
    refine fn_made (s:=s) (Q:=fun v s'=>wpAny (model B.prog B.w) A (storeName env name v) (fun q_ s''=>Q .next s'') E s') I' (C _ rfl rfl rfl rfl rfl rfl rfl) cd ⟨k1,k2⟩ rc fun G2 h2 s2 I2 r2=>?_
    exact fin ((Step.priv (B:=B) (G:=G) k).trans s2) I2 r2
  | none =>
    refine makeFunction_K (mg:=B.mg) hcl P.glb hg ec hkeep hP ht hc hgP hb fun c' ctv doc h' tk hx' hge hlt hrec htb=>?_
    refine via fun R_ k_=>?_
    obtain⟨c2,oc,vs,t,e2,hoc,hdc,hv⟩:=hrec
    refine k_ ?_
    cases e2
    have cdn:CodeG (G.put c' oc) (.ref c') (env.qual++name):=⟨c',oc,vs,t,rfl,St.put_at ..,hdc,hv⟩
    have hl:(ps ++ #[rawInt p.line,rawInt p.col,Value.ref c']).toList=ps.toList++[rawInt p.line,rawInt p.col,.ref c']:=by simp
    have gc:G.g c'=none:=I.gNew hge
    have mono:∀ b o,G.g b=some o→(G.put c' oc).g b=some o:=fun b o e=>by
      simp only[St.put]
      split
      · rename_i x;subst x;rw[gc] at e;cases e
      · exact e
    obtain ⟨I1,s1⟩:=I.newTab CO hq hx' htb (by rw[hl];exact TriplesOk_snoc _ _ _ _ ht) hoc hge (fun pos cv e=>by
      rw[hl] at e
      rw[eq']
      rcases codeAmong_split _ ht e with e | e
      · exact eq'▸(hcod pos cv e).mono mono
      · subst e;exact cdn)
    refine fn_made (s:=s) (Q:=fun v s'=>wpAny (model B.prog B.w) A (storeName env name v) (fun q_ s''=>Q .next s'') E s') I1 (C _ rfl rfl rfl rfl rfl rfl rfl) cdn ⟨k1,k2⟩ (RepC.mono mono (fun q_ q_ e=>e) rc) fun G2 h2 s2 I2 r2=>?_
    exact fin (s1.trans s2) I2 r2
end
end
section
open PySem PySem.W PyProof.Rows PySem.Calls
section
variable {prog:Program}{w:World}{A:Around}{R:Result→Shared→Prop}{s:Shared}
theorem compLoopG {elt target iter:Expr}{ifs:List Expr}{scope:Scope}{pos:Pos}{it acc:Value}{env:Env}(I:Nat→Shared→Prop)
    (turn : ∀ n s,I n s→wpAny (model prog w) A (pyNext it) (fun r s₁=>match r with
      | none=>R (.ok .next) s₁
      | some v =>wpAny (model prog w) A (letOwnedTupleGo target it v) (fun q_ s₁'=>wpAny (model prog w) A (assign target env v) (fun q_ s₂ =>
          wpAny (model prog w) A (forIn ifs true fun c r=>if r=true then do let ok ←isTrue c env (eval c env);pure (ForInStep.yield ok) else pure (ForInStep.yield r)) (fun ok s₃ =>
            if ok=true then wpAny (model prog w) A (eval elt env) (fun x s₄ =>
              wpAny (model prog w) A (call (.builtin "list.append") [acc,x]) (fun q_ s₅=>∃ m,m<n∧I m s₅) (notedBy (model prog w) A env fun e s'=>R (.error e) s') s₄) (notedBy (model prog w) A env fun e s'=>R (.error e) s') s₃
            else ∃ m,m<n∧I m s₃) (notedBy (model prog w) A env fun e s'=>R (.error e) s') s₂) (notedBy (model prog w) A env fun e s'=>R (.error e) s') s₁') (notedBy (model prog w) A env fun e s'=>R (.error e) s') s₁) (notedBy (model prog w) A env fun e s'=>R (.error e) s') s)
    (n:Nat) (h:I n s):codeAny (model prog w) A (.compLoop (.ListComp elt [⟨target,iter,ifs,0⟩] scope pos) 0 it acc env) R s:=by
  refine codeAny_loop rfl I (fun n s hI=>?_) n h
  show wpAny _ A ((compTurn (.ListComp elt [⟨target,iter,ifs,0⟩] scope pos) 0 it acc env).onRaise (fun x=>do noteFrame x env;theTreesLotGoes x)) _ _ s
  refine wpAny_noted ?_
  rw[compTurn_list]
  refine wpAny_bind (wpAny_standAt (wpAny_bind (wpAny_mono (turn n s hI) (fun r s₁ h₁=>?_) fun q_ q_ h'=>h')))
  cases r with
  | none=>exact wpAny_pure h₁
  | some v =>
    refine wpAny_bind (wpAny_mono h₁ (fun q_ s₁' h₁'=>?_) fun q_ q_ h'=>h')
    refine wpAny_bind (wpAny_mono h₁' (fun q_ s₂ h₂=>wpAny_bind (wpAny_mono h₂ (fun ok s₃ h₃=>?_) fun q_ q_ h'=>h')) fun q_ q_ h'=>h')
    cases ok with
    | false=>exact wpAny_pure ⟨rfl,h₃⟩
    | true =>
      exact wpAny_bind (wpAny_bind (wpAny_mono h₃ (fun x s₄ h₄=>wpAny_bind (wpAny_mono h₄ (fun q_ s₅ h₅=>wpAny_pure (wpAny_pure ⟨rfl,h₅⟩)) fun q_ q_ h'=>h')) fun q_ q_ h'=>h'))
end
theorem relabel_free {env:Env}:∀ {names:List (Str×NameKind)}{x:Str},names.lookup x=some .free →
    (names.map fun(n,k)=>if(k==NameKind.free&&env.scope.kind == .function&&env.kindOf n==some .cell) then(n,NameKind.cell) else(n,k)).lookup x=some .free ∨
    (names.map fun(n,k)=>if(k==NameKind.free&&env.scope.kind == .function&&env.kindOf n==some .cell) then(n,NameKind.cell) else(n,k)).lookup x=some .cell
  | [],_,h=>by simp at h
  | (n,k)::r,x,h=>by
    have ih:=@relabel_free env r x
    show List.lookup x ((if(k==NameKind.free&&env.scope.kind == .function&&env.kindOf n==some .cell)=true then(n,NameKind.cell) else(n,k))::_)=_∨List.lookup x ((if(k==NameKind.free&&env.scope.kind == .function&&env.kindOf n==some .cell)=true then(n,NameKind.cell) else(n,k))::_)=_
    cases hx:x==n with
    | true =>
      simp only[List.lookup_cons,hx] at h
      cases h
      split
      · right;simp[List.lookup_cons,hx]
      · left;simp[List.lookup_cons,hx]
    | false =>
      simp only[List.lookup_cons,hx] at h
      split <;> (simp only[List.lookup_cons,hx];exact ih h)
theorem relabel_glob {env:Env}:∀ {names:List (Str×NameKind)}{x:Str},names.lookup x=some .globalImplicit →
    (names.map fun(n,k)=>if(k==NameKind.free&&env.scope.kind == .function&&env.kindOf n==some .cell) then(n,NameKind.cell) else(n,k)).lookup x=some .globalImplicit
  | [],_,h=>by simp at h
  | (n,k)::r,x,h=>by
    have ih:=@relabel_glob env r x
    show List.lookup x ((if(k==NameKind.free&&env.scope.kind == .function&&env.kindOf n==some .cell)=true then(n,NameKind.cell) else(n,k))::_)=_
    cases hx:x==n with
    | true =>
      simp only[List.lookup_cons,hx] at h
      cases h
      simp[List.lookup_cons,hx]
    | false =>
      simp only[List.lookup_cons,hx] at h
      split <;> (simp only[List.lookup_cons,hx];exact ih h)
section
variable {B:Base}{A:Around}{T:Tabs}{sc:Scope}{ns:List (List Nat)}{env:Env}{F:AF}{G:St}{H:AH}
theorem frOK_comp {sc':Scope}{names:List (List Nat)}{caps:List (Nat×Nat)}(K:ClosOk sc sc' ns names caps)(hg:env.globals=mainGlobals)(hb:env.builtins=builtinsNs)(t1:T.gnames=B.T.gnames)(t2:T.mnames=B.T.mnames)
    {l:List (Nat×AV)} (rc:RepC B G names (clos env sc'.names []) l)
    (k1:∀ p∈sc'.names,p.2 = .free→∃ c∈l,names[c.1]? = some p.1.cps.toList) (k2:∀ c∈l,∃ n,names[c.1]? = some n∧jH sc' (toS n) .free=true)
    {C:Addr} {h':Heap} {m:Str→Option Value} (lg:G.g C=none) (la:C ∉ G.adr) (lt:C ∉ B.tabP) (hns:h'.Ns C m) :
    FrOK B T.bare sc' names (compEnvC sc' (clos env sc'.names []) C env) (putCaps (List.replicate names.length none) l) G h':=by
  have S:=scopeOk_iff K.scp
  have ncell:∀ x,jH sc' x .cell=false:=fun x=>by
    cases e:jH sc' x .cell with
    | false=>rfl
    | true=>exact absurd rfl (K.cell _ (wK (isKind_iff.mp e)))
  have hlen:(List.replicate names.length none:AF).length=names.length:=List.length_replicate
  refine⟨t1,t2,fun x e=>lookup_relabel_local (isKind_iff.mp e),fun x e=>?_,fun x e=>relabel_free (isKind_iff.mp e),fun x e=>relabel_glob (isKind_iff.mp e),S.kind,hg,hb,S.nod,?_,lg,la,lt,⟨m,hns,?_⟩,?_,?_,?_,fun w hw=>(by cases hw),fun k n a b s h=>(by cases h),fun k n a b s h=>(by cases h)⟩
  · rw[ncell] at e;cases e
  · rw[putCaps_len,hlen]
  · intro i n hn hl v hv
    rw[putCaps_other] at hv
    · have:=List.mem_of_getElem? hv
      rw[List.mem_replicate] at this
      cases this.2
    · intro c hc' e
      subst e
      obtain⟨n',hn',hfree⟩:=k2 c hc'
      rw[hn] at hn'
      cases hn'
      rw[isKind_iff] at hl hfree
      rw[hl] at hfree;cases hfree
  · intro i n hn hk'
    rcases hk' with hk' | hk'
    · rw[ncell] at hk';cases hk'
    · obtain ⟨c,hc',hcn⟩:=k1 _ (wK (isKind_iff.mp hk')) rfl
      have hcn:names[c.1]? = some n:=by
        have:(toS n).cps.toList=n:=by simp[toS]
        rw[this] at hcn;exact hcn
      have hi:c.1=i:=nodup_at S.nod hcn hn
      have hil:i<names.length:=(List.getElem?_eq_some_iff.mp hn).1
      obtain⟨v,hv,e⟩:=putCaps_at l (List.replicate names.length none) i (by rw[hlen];exact hil) ⟨c,hc',hi⟩
      refine via fun R_ k_=>?_
      obtain⟨n',cc,o,u,a1,a2,a3,a4,a5⟩:=repC_at rc (i,v) hv
      refine k_ ?_
      rw[hn] at a1;cases a1
      refine⟨cc,a2,?_⟩
      rw[e]
      exact⟨o,u,a3,a4,a5⟩
  · rintro a (ha | ⟨x,hx,_⟩)
    · refine via fun R_ k_=>?_
      obtain⟨o,_,_,e,_⟩:=hns
      refine k_ ?_
      exact⟨o,by rw[ha];exact e⟩
    · rw[ncell] at hx;cases hx
  · intro x y c hx
    rw[ncell] at hx;cases hx
noncomputable abbrev EvTs (B:Base)(A:Around)(T:Tabs)(sc:Scope)(ns:List (List Nat))(env:Env)(F:AF)(ifs:List Expr)(m:AM AV):Prop :=
  Ev B A (FrOK B T sc ns env F) (forIn ifs true fun c r=>if r=true then do let ok ←isTrue c env (eval c env);pure (ForInStep.yield ok) else pure (ForInStep.yield r)) (fun _ (x:Bool) (b:Bool)=>b=x) (tst m)
theorem evTs_nil:EvTs B A T sc ns env F [] (zH (.bool true)):=fun s G H x H' P I eq Q E hQ=>by
  obtain⟨e,rfl⟩:=zF (tst_some eq)
  cases e
  exact wpAny_pure (hQ _ G _ _ (Step.refl ..) I P rfl)
theorem tests_false {prog:Program}{w:World}{E:Value→Shared→Prop}{s:Shared}{Q:Bool→Shared→Prop}:∀ (ifs:List Expr),Q false s →
    wpAny (model prog w) A (forIn ifs false fun c r=>if r=true then do let ok ←isTrue c env (eval c env);pure (ForInStep.yield ok) else pure (ForInStep.yield r)) Q E s
  | [],h=>wpAny_pure h
  | c::r,h=>by
    rw[List.forIn_cons]
    simp only[Bool.false_eq_true,if_false,pure_bind]
    exact tests_false r h
theorem evTs_cons {c:Expr}{r:List Expr}{mc mr:AM AV}(hc:EvT B A T sc ns env F c mc)(hr:EvTs B A T sc ns env F r mr) :
    EvTs B A T sc ns env F (c::r) (zZ mc fun v=>zZ (jW (wH v)) fun t=>if t then mr else zH (.bool false)):=fun s G H x H' P I eq Q E hQ=>by
  have eq:=tst_some eq
  obtain⟨t,H1,e1,eq⟩:=JZ eq
  rw[List.forIn_cons]
  simp only[if_true]
  refine wpAny_bind (wpAny_bind (hc s G H t H1 P I (tst_of e1) _ _ fun v G1 h1 t1 s1 I1 P1 r1=>wpAny_pure ?_))
  subst r1
  cases v with
  | true=>exact hr _ G1 H1 x H' P1 I1 (tst_of eq) _ _ fun w G2 h2 t2 s2 I2 P2 r2=>hQ w G2 h2 t2 (s1.trans s2) I2 P2 r2
  | false =>
    obtain⟨e,rfl⟩:=zF eq
    cases e
    exact tests_false r (hQ _ G1 h1 t1 s1 I1 P1 rfl)
theorem opt_eq {α β:Type}{o:Option α}{f:α→AM β}{H:AH}{x:α}(e:o=some x):zZ (jW o) f H=f x H:=by
  subst e;rfl
theorem ZG {α:Type}{b:Prop} [Decidable b]{x:α}(h:b):aif b x=some x:=if_pos h
end
end
section
open PySem PySem.W PyProof.Rows PySem.Calls
section
variable {B:Base}{A:Around}{T:Tabs}{sc:Scope}{ns:List (List Nat)}{env:Env}{F:AF}
structure Priv (B:Base)(G:St)(a:Addr):Prop where
  la:a ∉ G.adr
  lt:a ∉ B.tabP
  lg:G.g a=none
theorem Priv.step {X:Addr→Prop}{G G':St}{h h':Heap}{a:Addr}{o:Obj}(p:Priv B G a)(st:Step B X G h G' h')(hX:¬ X a)(e:h.get? a=some o):Priv B G' a :=
  ⟨not_new st p.la hX e,p.lt,(st.ext a o e hX).trans p.lg⟩
theorem Priv.new {G:St}{H:AH}{h:Heap}(I:Inv B G H h){a:Addr}(e:h.objs.size≤a):Priv B G a :=
  ⟨fun m=>absurd (I.lt m) (Nat.not_lt.mpr e),fun m=>absurd (I.tabLt m) (Nat.not_lt.mpr e),I.gNew e⟩
theorem Inv.priv {G:St}{H:AH}{h h':Heap}(I:Inv B G H h){a:Addr}(p:Priv B G a)(k:∀ b o,b≠a→h.get? b=some o→h'.get? b=some o):Inv B G H h' :=
  I.keeps fun b o q e=>k b o (fun x=>by
    subst x
    rcases q with q | q | q
    · rw[p.lg] at q;cases q
    · exact p.la q
    · exact p.lt q) e
noncomputable def cf (mt:AV→AF→AM AF)(mifs me:AF→AM AV)(F0:AF):AV→AM (Option AV):=fun x=>zZ (mt x F0) fun F'=>zZ (mifs F') fun b=>zZ (jW (wH b)) fun t=>if t then zZ (me F') fun v=>zH (some v) else zH none
inductive CInv (B:Base)(Y:Addr→Prop)(Sx:Nat→St→Heap→Prop)(f:AV→AM (Option AV))(xs ys:List AV)(H':AH)(C D:Addr)(s:Shared)(G:St)(n:Nat):Shared→Prop
  | mk {k:Nat} {G3:St} {H3:AH} {h3:Heap} {t3:Tok} {done rest:List AV} {vs:Array Value} {nn:Nat} (hk:n+k=xs.length) (st:Step B Y G s.heap G3 h3) (I:Inv B G3 H3 h3) (pC:Priv B G3 C) (pD:Priv B G3 D) (hn:∃ m,h3.Ns C m)
    (hD:h3.get? D=some (lstO vs nn)) (rd:RepL B G3 done vs.toList) (S:Sx k G3 h3) (eq:acomp f (xs.drop k) H3=some (rest,H')) (ey:ys=done++rest):CInv B Y Sx f xs ys H' C D s G n { s with heap:=h3,toks:=t3 }
set_option tactic.hygienic true in
theorem comp_run (hA:A.handled=none){e t it:Expr}{cs:List Expr}{sc':Scope}{pos:Pos}{names:List (List Nat)}{caps:List (Nat×Nat)}{tg:Expr→Prop}{mi:AM (List AV)}{mt:AV→AF→AM AF}{mifs me:AF→AM AV}
    (K:ClosOk sc sc' ns names caps) (hf:noFold it=true) (htg:tg t) (hi:EvI B A T sc ns env F tg it mi)
    (ht:∀ C,AsT B A T.bare sc' names (compEnvC sc' (clos env sc'.names []) C env) t mt)
    (hifs:∀ C F,EvTs B A T.bare sc' names (compEnvC sc' (clos env sc'.names []) C env) F cs (mifs F))
    (he:∀ C F,EvE B A T.bare sc' names (compEnvC sc' (clos env sc'.names []) C env) F e (me F))
    {s:Shared} {G:St} {H H1 H':AH} {xs ys:List AV} {l:List (Nat×AV)} (P:FrOK B T sc ns env F G s.heap) (I:Inv B G H s.heap) (e1:mi H=some (xs,H1)) (el:capsOf F caps=some l)
    (e2:acomp (cf mt mifs me (putCaps (List.replicate names.length none) l)) xs H1=some (ys,H')) (hlen:ys.length≤line) {use:Option (Value→Sem Unit)} {Q E:Value→Shared→Prop}
    (hfin:∀ D C G' h' tk' m,Step B Pure G s.heap G' h'→Inv B G' H' h'→FrOK B T sc ns env F G' h'→Rep B G' (.lst ys) (.ref D)→h'.Ns C m→Priv B G' C→s.heap.get? C=none →
      compPost (model B.prog B.w) A E use Q (.ref D) C (.ok .next) { s with heap:=h',toks:=tk' }) :
    wpAny (model B.prog B.w) A (comprehension (.ListComp e [⟨t,it,cs,0⟩] sc' pos) sc' env (firstIterPos [⟨t,it,cs,0⟩] pos) (newList []) false (eval it env) use) Q E s:=by
  have S:=scopeOk_iff K.scp
  have hfree:∀ p∈sc'.names,p.2 = .free→∃ c,env.cells.lookup p.1=some c:=(handed K P el).1
  have hnames:∀ x∈sc'.names,x.2 = .local→sc'.names.lookup x.1=some .local:=fun x hx hl=>by
    have:=lookup_of_mem S.keys (p:=x.1) (v:=x.2) hx
    rw[this,hl]
  refine wpAny_comprehension_free rfl (fun x=>fold_pure hf) (clos_for hfree) S.kind hnames ?_
  refine hi s G H xs H1 P I e1 _ _ fun v G1 h1 t1 s1 I1 P1 r1=>?_
  refine r1 A _ hA rfl _ _ fun iv X Sx G2 h2 t2 s2 I2 W S0 fr=>?_
  refine wpAny_newObj_type (wpAny_newFunctionEnv K.cell (by intro y hy;cases hy) (fun h4 hns sb=>?_) S.kind)
  dsimp only at hns sb ⊢
  have hlst:({ cls := .type "list",dict:=none,data := .seq ([]:List Value).toArray }:Obj)=lstO #[] 0:=rfl
  have kk:∀ b o,h2.get? b=some o→h4.get? b=some o:=fun b o e=>sb.extBut b o (fun q=>by
    have:=Heap.lt_size (Heap.get?_push_of_some (lstO #[] 0) e)
    rw[q] at this;exact absurd this (Nat.lt_irrefl _)) (Heap.get?_push_of_some _ (Heap.get?_push_of_some _ e))
  generalize hC:(h2.push ({ cls := .type "list",dict:=none,data := .seq ([]:List Value).toArray }:Obj)).objs.size=C at hns sb ⊢
  have hCs:C=h2.objs.size+1:=by rw[←hC,Heap.size_push]
  generalize hD:h2.objs.size=D at *
  have hDC:D≠C:=by rw[hCs];exact(Nat.succ_ne_self D).symm
  have hD4:h4.get? D=some (lstO #[] 0):=by
    refine sb.extBut D _ hDC (Heap.get?_push_of_some _ ?_)
    rw[←hD];exact Heap.get?_push_size _ rfl
  have pD:Priv B G2 D:=Priv.new I2 (Nat.le_of_eq hD)
  have pC:Priv B G2 C:=Priv.new I2 (by rw[hD,hCs];exact Nat.le_succ D)
  have I4:Inv B G2 H1 h4:=I2.keeps fun b o q_ e=>kk b o e
  have s4:Step B Pure G2 h2 G2 h4:=Step.priv kk
  have XC:∀ b,X b→b≠C∧b≠D:=fun b hb=>by
    obtain⟨_,o,eo⟩:=fr b hb
    have:=Heap.lt_size eo
    rw[hD] at this
    exact⟨fun q=>by rw[q,hCs] at this;exact absurd this (Nat.not_lt.mpr (Nat.le_succ D)),fun q=>by rw[q] at this;exact absurd this (Nat.lt_irrefl _)⟩
  have older:∀ b,D≤b→s.heap.get? b=none:=fun b hb=>by
    cases q:s.heap.get? b with
    | none=>rfl
    | some o =>
      obtain⟨o1,q1⟩:=s1.live b o (fun q=>q) q
      obtain⟨o2,q2⟩:=s2.live b o1 (fun q=>q) q1
      have:=Heap.lt_size q2
      rw[hD] at this
      exact absurd this (Nat.not_lt.mpr hb)
  have rc:=(handed K P el).2
  have S4:=W.stay 0 Pure G2 H1 h2 G2 H1 h4 S0 I2 I4 s4 (fun q_ q_ q=>q)
  let Y:Addr→Prop:=fun b=>b=C∨b=D∨X b
  have Ynew:∀ b,Y b→s.heap.get? b=none:=fun b hb=>by
    rcases hb with rfl | rfl | hb
    · exact older _ (by rw[hCs];exact Nat.le_succ D)
    · exact older _ (Nat.le_refl _)
    · exact(fr b hb).1
  have s04:Step B Y G s.heap G2 h4:=s1.pure.trans (s2.pure.trans s4.pure)
  have frame:∀ {G3:St} {h3:Heap},Step B Y G s.heap G3 h3→Priv B G3 C→(∃ m,h3.Ns C m)→FrOK B T.bare sc' names (compEnvC sc' (clos env sc'.names []) C env) (putCaps (List.replicate names.length none) l) G3 h3:=fun st p hn=>by
    obtain⟨m,hn⟩:=hn
    exact frOK_comp K P.glb P.blt P.tg P.tm (RepC.mono st.mono (fun q_ q_ e=>st.alAt e) rc.1) rc.2.1 rc.2.2 p.lg p.la p.lt hn
  have own:∀ b,Own sc' (compEnvC sc' (clos env sc'.names []) C env) b→b=C:=fun b hb=>by
    rcases hb with hb | ⟨x,hx,_⟩
    · exact hb
    · exact absurd rfl (K.cell _ (wK (isKind_iff.mp hx)))
  have main:∀ s₃:Shared,s₃={ s with heap:=h4,toks:=t2+([]:List (Str×Value)).length } →
      codeAny (model B.prog B.w) A (.compLoop (.ListComp e [⟨t,it,cs,0⟩] sc' pos) 0 iv (.ref D) (compEnvC sc' (clos env sc'.names []) C env)) (compPost (model B.prog B.w) A E use Q (.ref D) C) s₃:=by
    rintro s₃ rfl
    refine compLoopG (CInv B Y Sx (cf mt mifs me (putCaps (List.replicate names.length none) l)) xs ys H' C D s G) (fun n s' hI=>?_) xs.length (.mk (vs := #[]) (nn:=0) (done:=[]) (rest:=ys) (k:=0) rfl s04 I4 pC pD ⟨_,hns⟩ hD4 rfl S4 e2 rfl)
    refine via fun R_ k_=>?_
    obtain⟨hk,s3,I3,pC3,pD3,⟨m3,hn3⟩,hD3,rd,S3,eq,ey⟩:=hI
    refine k_ ?_
    rename_i k G3 H3 h3 t3 done rest vs nn
    cases n with
    | zero =>
      have hk:k=xs.length:=by omega
      subst hk
      rw[List.drop_length] at eq
      obtain⟨e8,rfl⟩:=zF eq
      subst e8
      rw[List.append_nil] at ey
      subst ey
      refine W.done A _ G3 _ hA S3 I3 _ _ fun G5 h5 t5 s5 I5=>?_
      dsimp only at s5
      have nX:¬ X C∧¬ X D:=⟨fun q=>(XC C q).1 rfl,fun q=>(XC D q).2 rfl⟩
      refine via fun R_ k_=>?_
      obtain⟨oc,_,_,ec,_⟩:=id hn3
      refine k_ ?_
      have pC5:=pC3.step s5 nX.1 ec
      have pD5:=pD3.step s5 nX.2 hD3
      have hD5:=s5.keep D _ nX.2 pD3.la pD3.lt hD3
      have hn5:h5.Ns C m3:=hn3.at' fun o e=>s5.keep C o nX.1 pC3.la pC3.lt e
      have I6:=I5.freeze hD5 pD5.la pD5.lt fun o' e=>by rw[pD5.lg] at e;cases e
      have mono:∀ b o,G5.g b=some o→(G5.put D (lstO vs nn)).g b=some o:=fun b o e=>by
        simp only[St.put]
        split
        · rename_i x;subst x;rw[pD5.lg] at e;cases e
        · exact e
      have s35:Step B Y G s.heap G5 h5:=s3.trans (s5.weak fun b q => .inr (.inr q))
      have s6:Step B Y G5 h5 (G5.put D (lstO vs nn)) h5:=by
        refine⟨fun b o q_ e=>⟨o,e⟩,mono,fun b o e hb=>?_,⟨[],(List.append_nil _).symm,fun q_ hm=>(List.not_mem_nil hm).elim⟩,fun b o q_ q_ q_ e=>e⟩
        simp only[St.put]
        rw[if_neg (fun q:b=D=>hb (.inr (.inl q)))]
      have stp:=(s35.trans s6).shut Ynew
      refine hfin D C _ h5 t5 m3 stp I6 (P.step stp) ⟨D,vs,nn,rfl,St.put_at ..,?_⟩ hn5 ⟨pC5.la,pC5.lt,?_⟩ (Ynew C (.inl rfl))
      · exact RepL.mono mono (fun q_ q_ e=>e) (s5.repL rd)
      · simp only[St.put]
        rw[if_neg (fun q:C=D=>hDC q.symm)];exact pC5.lg
    | succ n =>
      have hlt:k<xs.length:=by omega
      have hx:xs[k]? = some xs[k]:=List.getElem?_eq_getElem hlt
      rw[List.drop_eq_getElem_cons hlt] at eq
      refine via fun R_ k_=>?_
      obtain⟨ov,H6,e5,eq⟩:=zJ eq
      obtain⟨rest',H7,e6,eq⟩:=zJ eq
      obtain⟨e7,rfl⟩:=zF eq
      obtain⟨F4,H4,e8,e9⟩:=zJ e5
      obtain⟨tb,H5,e10,e11⟩:=JZ e9
      refine k_ ?_
      have nX:¬ X C∧¬ X D:=⟨fun q=>(XC C q).1 rfl,fun q=>(XC D q).2 rfl⟩
      refine W.item A k _ G3 H3 xs[k] hA hx S3 I3 _ _ fun v G4 h4' t4 s4' I4' r4 go=>?_
      dsimp only at s4'
      refine go A t _ htg rfl _ _ fun G5 h5 t5 s5 I5 S5=>?_
      refine via fun R_ k_=>?_
      obtain⟨oc,_,_,ec,_⟩:=id hn3
      refine k_ ?_
      have ec4:=s4'.keep C oc nX.1 pC3.la pC3.lt ec
      have pC4:=pC3.step s4' nX.1 ec
      have hn4:h4'.Ns C m3:=hn3.at' fun o e=>s4'.keep C o nX.1 pC3.la pC3.lt e
      have hD4':=s4'.keep D _ nX.2 pD3.la pD3.lt hD3
      have pD4:=pD3.step s4' nX.2 hD3
      have pC5:=pC4.step s5 nX.1 ec4
      have hn5:h5.Ns C m3:=hn4.at' fun o e=>s5.keep C o nX.1 pC4.la pC4.lt e
      have hD5:=s5.keep D _ nX.2 pD4.la pD4.lt hD4'
      have pD5:=pD4.step s5 nX.2 hD4'
      have s35:Step B Y G s.heap G5 h5:=s3.trans ((s4'.weak fun b q => .inr (.inr q)).trans (s5.weak fun b q => .inr (.inr q)))
      have P5:=frame s35 pC5 ⟨_,hn5⟩
      refine ht C _ _ G5 H3 xs[k] v F4 H4 P5 I5 (s5.rep r4) e8 _ _ fun G6 h6 t6 s6 I6 P6=>?_
      dsimp only at s6
      have nO:¬ Own sc' (compEnvC sc' (clos env sc'.names []) C env) D:=fun q=>hDC (own D q)
      have hD6:=s6.keep D _ nO pD5.la pD5.lt hD5
      have pD6:=pD5.step s6 nO hD5
      have S6:=W.stay (k+1) _ G5 H3 h5 G6 H4 h6 S5 I5 I6 s6 (fun b hb q=>(XC b hb).1 (own b q))
      have s36:Step B Y G s.heap G6 h6:=s35.trans (s6.weak fun b q => .inl (own b q))
      refine hifs C F4 _ G6 H4 tb H5 P6 I6 (tst_of e10) _ _ fun ok G7 h7 t7 s7 I7 P7 r7=>?_
      subst r7
      dsimp only at s7
      have hD7:=s7.keep D _ (fun q=>q) pD6.la pD6.lt hD6
      have pD7:=pD6.step s7 (fun q=>q) hD6
      have S7:=W.stay (k+1) _ G6 H4 h6 G7 H5 h7 S6 I6 I7 s7 (fun q_ q_ q=>q)
      have s37:Step B Y G s.heap G7 h7:=s36.trans s7.pure
      have pC7:Priv B G7 C:=⟨P7.la,P7.lt,P7.lg⟩
      cases ok with
      | false =>
        obtain⟨e12,rfl⟩:=zF e11
        subst e12
        simp only[Bool.false_eq_true,if_false]
        obtain⟨m7,hm7,_⟩:=P7.loc
        refine⟨n,Nat.lt_succ_self n,.mk (k:=k+1) (by omega) s37 I7 pC7 pD7 ⟨m7,hm7⟩ hD7 (s7.repL (s6.repL (s5.repL (s4'.repL rd)))) S7 e6 ?_⟩
        rw[ey,←e7]
      | true =>
        rw[if_pos rfl] at e11
        obtain⟨z,H8,e12,e13⟩:=zJ e11
        obtain⟨e14,rfl⟩:=zF e13
        subst e14
        simp only[if_true]
        refine he C F4 _ G7 H5 z H6 P7 I7 e12 _ _ fun u G8 h8 t8 s8 I8 P8 r8=>?_
        dsimp only at s8
        have hD8:=s8.keep D _ (fun q=>q) pD7.la pD7.lt hD7
        have pD8:=pD7.step s8 (fun q=>q) hD7
        have S8:=W.stay (k+1) _ G7 H5 h7 G8 H6 h8 S7 I7 I8 s8 (fun q_ q_ q=>q)
        have rd8:=s8.repL (s7.repL (s6.repL (s5.repL (s4'.repL rd))))
        have hsz:vs.size≤sizeLine:=by
          rw[ZQ rd]
          have h1:done.length≤ys.length:=by rw[ey,List.length_append];omega
          have h2:line≤sizeLine:=by decide
          omega
        refine wpAny_list_append_plain (s:={ s with heap:=h8,toks:=t8 }) (hsz:=hsz) ⟨nn,hD8⟩ fun h9 hl9 sb9=>?_
        obtain⟨n9,hD9⟩:=hl9
        have k9:∀ b o,b≠D→h8.get? b=some o→h9.get? b=some o:=fun b o hb e=>sb9.extBut b o hb e
        have I9:=I8.priv pD8 k9
        have s9:Step B Y G8 h8 G8 h9:=Step.own fun b o hb e=>k9 b o (fun q=>hb (.inr (.inl q))) e
        have s9':Step B (· = D) G8 h8 G8 h9:=Step.own fun b o hb e=>k9 b o hb e
        have S9:=W.stay (k+1) _ G8 H6 h8 G8 H6 h9 S8 I8 I9 s9' (fun b hb q=>(XC b hb).2 q)
        obtain⟨m8,hm8,_⟩:=P8.loc
        refine⟨n,Nat.lt_succ_self n,.mk (k:=k+1) (done:=done++[z]) (by omega) (s37.trans (s8.pure.trans s9)) I9 ⟨P8.la,P8.lt,P8.lg⟩ pD8 ⟨m8,hm8.at' fun o e=>k9 C o (Ne.symm hDC) e⟩ hD9 ?_ S9 e6 ?_⟩
        · rw[Array.toList_push]
          exact repL_append rd8 ⟨u,[],rfl,r8,rfl⟩
        · rw[ey,←e7,List.append_assoc];rfl
  exact codeAny_compStart_list (main _ rfl) (W.self A 0 _ G2 hA S4 _ _ (main _ rfl))
end
end
section
open PySem PySem.W PyProof.Rows PySem.Calls
section
variable {B:Base}{A:Around}{T:Tabs}{sc:Scope}{ns:List (List Nat)}{env:Env}{F:AF}
section
variable {G:St}{H:AH}{s:Shared}
theorem slm_lst {xs:List AV}{lo hi:Option Int}{a b:Addr}{v2 v3:Value}{vs:Array Value}(I:Inv B G H s.heap)(sl:s.heap.IsSliceOf a v2 v3 .none)(n1:∀ i,lo=some i → -1≤i)(n2:∀ i,hi=some i → -1≤i)(k1:IsPart v2 lo)(k2:IsPart v3 hi)
    (hb:s.heap.IsList b vs) (ra:RepL B G xs vs.toList) (hz:xs.length≤1048576):∃ T id,s.TypeIs (.ref b) T∧typeLookup (.type T) "__getitem__" = pure (some (.builtin id))∧Yields B A (getItem (.ref b) (.ref a)) G H (H++[.list (cut xs lo hi)]) (.obj H.length) s:=by
  refine⟨"list",_,hb.typeIs,list_getitem_lookup,fun Q E hQ=>?_⟩
  have hsz:=ZQ ra
  refine wpAny_getItem_list_slice hb sl k1 k2 .none (by simp) ?_ (by rw[hsz,sizeLine_eq];omega)
  have rc:RepL B G (cut xs lo hi) (slicePick vs lo hi none).toList:=by
    rw[slicePick_plain,←clip_eq n1,←clip_eq n2]
    have:=repL_cut ra lo hi
    rw[cut_eq,cut_eq,Array.length_toList] at this
    rw[cut_eq]
    exact this
  obtain⟨G2,s2,I2,r2⟩:=new_lst I rc
  exact hQ _ _ _ s.toks s2 I2 r2
theorem op_slm {a:Addr}{x l u:AV}{zs:List AV}{v1 v2 v3:Value}(e:aslc H x l u=some (.lst zs))(I:Inv B G H s.heap)(sl:s.heap.IsSliceOf a v2 v3 .none)(r1:Rep B G x v1)(r2:Rep B G l v2)(r3:Rep B G u v3) :
    ∃ T id,s.TypeIs v1 T∧typeLookup (.type T) "__getitem__" = pure (some (.builtin id))∧Yields B A (getItem v1 (.ref a)) G H (H++[.list zs]) (.obj H.length) s:=by
  refine via fun R_ k_=>?_
  obtain⟨lo,el,e⟩:=bind_some (o:=part l) e
  obtain⟨hi,eh,e⟩:=bind_some (o:=part u) e
  obtain⟨n1,p1,q1,q1',k1⟩:=part_some el r2
  obtain⟨n2,p2,q2,q2',k2⟩:=part_some eh r3
  refine k_ ?_
  cases x with
  | tup xs=>exact nomatch (wJ e).2
  | lst xs =>
    obtain⟨hz,e⟩:=wJ e
    cases e
    obtain⟨b,vs,rfl,hb,ra⟩:=isLst I r1
    exact slm_lst I sl n1 n2 k1 k2 hb ra hz
  | row xs =>
    obtain⟨hz,e⟩:=wJ e
    cases e
    obtain⟨b,vs,rfl,hb,ra⟩:=isRow I r1
    exact slm_lst I sl n1 n2 k1 k2 hb ra hz
  | str cs=>exact nomatch (wJ e).2
  | obj n =>
    obtain⟨xs,hH,e⟩:=bind_some (o:=listAt H n) e
    obtain⟨hz,e⟩:=wJ e
    cases e
    obtain⟨p,hp,rfl⟩:=r1
    obtain⟨e1',vs,n,hg,ra⟩:=I.objs _ _ _ (listAt_some hH) hp
    exact slm_lst I sl n1 n2 k1 k2 ⟨_,hg,rfl,n,rfl⟩ ra hz
  | _=>exact nos e
end
theorem ev_slm {a:Expr}{l u:Option Expr}{p q:Pos}{ma ml mu:AM AV}(ha:EvE B A T sc ns env F a ma)(hl:EvP B A T sc ns env F l ml)(hu:EvP B A T sc ns env F u mu) :
    EvE B A T sc ns env F (.Subscript a (.Slice l u none q) p) (zZ ma fun x=>zZ ml fun l=>zZ mu fun h=>zZ (aread fun H=>aslc H x l h) fun v=>zZ (jW (toLst v)) fun xs=>anewL xs):=fun s G H z H' hP I eq Q E hQ=>by
  refine via fun R_ k_=>?_
  obtain⟨x,H1,e1,eq⟩:=zJ eq
  obtain⟨y,H2,e2,eq⟩:=zJ eq
  obtain⟨w,H3,e3,eq⟩:=zJ eq
  obtain⟨v,e4,eq⟩:=abind_read eq
  obtain⟨zs,e5,eq⟩:=jB eq
  have e5:=toLst_some e5
  subst e5
  refine k_ ?_
  cases (show anewL zs H3=some (z,H') from eq)
  refine sub_slice (ha s G H x H1 hP I e1 _ _ fun v1 G1 h1 t1 s1 I1 P1 r1=>wpAny_Slice ?_)
  refine hl _ G1 H1 y _ P1 I1 e2 _ _ fun v2 G2 h2 t2 s2 I2 P2 r2=>?_
  refine hu _ G2 H2 w _ P2 I2 e3 _ _ fun v3 G3 h3 t3 s3 I3 P3 r3=>wpAny_pure ?_
  have s4:Step B Pure G3 h3 (G3.put h3.objs.size { cls := .type "slice",data := .fields #[v2,v3,.none] }) (h3.push { cls := .type "slice",data := .fields #[v2,v3,.none] }):=Step.alloc I3 _
  refine via fun R_ k_=>?_
  obtain⟨T',id,hT,hl,hy⟩:=op_slm (A:=A) (s:={ s with heap:=h3.push { cls := .type "slice",data := .fields #[v2,v3,.none] },toks:=t3 }) e4 (I3.alloc _ rfl) (Heap.IsSliceOf.new ..) (s4.rep (s3.rep (s2.rep r1))) (s4.rep (s3.rep r2)) (s4.rep r3)
  refine k_ ?_
  exact⟨T',id,hT,hl,hy.use (P3.step s4) (s1.trans (s2.trans (s3.trans s4))) fun v G' h' tk'=>hQ v G' h' tk'⟩
theorem bin_int {o:Op2}{x y:AV}{k:Int}(e:abin o x y=some (.int k))(h1:o ≠ .mul)(h2:o ≠ .mod)(h3:o ≠ .fdiv):∃ a b,x = .int a∧y = .int b∧((o = .add∧k=a+b)∨(o = .sub∧k=a-b)):=by
  cases o with
  | add =>
    cases x with
    | int a =>
      obtain⟨b,hb,e⟩:=wA (o:=wY y) e
      cases e
      exact⟨a,b,rfl,wF hb,.inl ⟨rfl,rfl⟩⟩
    | str a=>obtain⟨b,hb,e⟩:=bind_some (o:=toStr y) e;exact nomatch (wJ e).2
    | tup a=>obtain⟨b,hb,e⟩:=bind_some (o:=toTup y) e;exact nomatch (wJ e).2
    | lst a=>obtain⟨b,hb,e⟩:=bind_some (o:=toLst y) e;exact nomatch (wJ e).2
    | _=>exact nos e
  | sub =>
    refine via fun R_ k_=>?_
    obtain⟨a,ha,e⟩:=bind_some (o:=wY x) e
    obtain⟨b,hb,e⟩:=bind_some (o:=wY y) e
    obtain⟨c,hc,e⟩:=wA (o:=some (a-b)) e
    refine k_ ?_
    cases hc
    cases e
    exact⟨a,b,wF ha,wF hb,.inr ⟨rfl,rfl⟩⟩
  | mul=>exact absurd rfl h1
  | mod=>exact absurd rfl h2
  | fdiv=>exact absurd rfl h3
theorem inplace_int {o:Op2}{x y:AV}{k:Int}{v w:Value}{G:St}{Q:Value→Shared→Prop}{E:Value→Shared→Prop}{s:Shared}(e:abin o x y=some (.int k))(h1:o ≠ .mul)(h2:o ≠ .mod)(h3:o ≠ .fdiv)
    (rx:Rep B G x v) (ry:Rep B G y w) (hQ:∀ u tk,Q (.int k u) { s with toks:=tk }):wpAny (model B.prog B.w) A (inplaceOp o.op v w) Q E s:=by
  obtain⟨a,b,rfl,rfl,h⟩:=bin_int e h1 h2 h3
  obtain⟨t,rfl⟩:=rx
  obtain⟨u,rfl⟩:=ry
  rcases h with⟨rfl,rfl⟩ | ⟨rfl,rfl⟩
  · exact AutoIntOps.iadd_0 (hQ _ _)
  · exact AutoIntOps.isub_0 (hQ _ _)
theorem ex_aug {i:Nat}{o:Op2}{n:List Nat}{x:Str}{e:Expr}{p' p:Pos}{me:AF→AM AV}(hn:ns[i]? = some n)(hx:isS n x=true)(hk:jH sc x .local=true)(h1:o ≠ .mul)(h2:o ≠ .mod)(h3:o ≠ .fdiv)
    (h:∀ F,EvE B A T sc ns env F e (me F)) :
    ExS B A T sc ns env (exec (.AugAssign (.Name x p') o.op e p) env) (fun F=>zZ (jW (F[i]?.join)) fun x=>zZ (me F) fun y=>zZ (jW (abin o x y)) fun z=>zZ (jW (wY z)) fun k=>zH (.next,F.set i (some (.int k)))):=fun F s G H fl F' H' P I eq Q E hQ=>by
  obtain⟨xv,e1x,eq⟩:=jB eq
  obtain⟨yv,H2,e2,eq⟩:=zJ eq
  obtain⟨zv,e3x,eq⟩:=jB eq
  obtain⟨k,e4,eq⟩:=jB eq
  have e4:=wF e4
  subst e4
  obtain⟨e5,rfl⟩:=zF eq
  cases e5
  have eF:=Option.join_eq_some_iff.mp e1x
  have hx':=isS_eq hx
  subst hx'
  refine via fun R_ k_=>?_
  obtain⟨m,hm,hl⟩:=P.loc
  obtain⟨u,a,b⟩:=hl i n hn hk xv eF
  refine k_ ?_
  refine wpAny_AugAssign_Name (wpAny_loadName_local P.kind (P.kl _ hk) hm a ?_)
  refine h F s G _ yv _ P I e2 _ _ fun v G1 h1' t1 s1 I1 P1 r1=>?_
  refine inplace_int e3x h1 h2 h3 (s1.rep b) r1 fun w tk=>?_
  have hk':jH sc (toS n) (if false=true then .cell else .local)=true:=hk
  exact store_name (s:={ s with heap:=h1',toks:=tk }) (c:=false) P1 I1 hn hk' (fun h=>nomatch h) (x := .int k) ⟨w,rfl⟩ fun G3 h3 tk3 s3 I3 P3=>hQ _ G3 h3 tk3 (s1.pure.trans s3) I3 P3 trivial
theorem ex_augA (K:ClassesOk B){o:Op2}{f:Fld}{a e:Expr}{p' p:Pos}{ma me:AF→AM AV}(h1:o ≠ .mul)(h2:o ≠ .mod)(h3:o ≠ .fdiv)
    (ha:∀ F,EvE B A T sc ns env F a (ma F)) (h:∀ F,EvE B A T sc ns env F e (me F)) :
    ExS B A T sc ns env (exec (.AugAssign (.Attribute a f.name p') o.op e p) env) (fun F=>zZ (ma F) fun x=>zZ (agetA x f) fun v=>zZ (me F) fun y=>zZ (jW (abin o v y)) fun z=>zZ (jW (wY z)) fun k=>zZ (asetA x f (.int k)) fun q_=>zH (.next,F)):=fun F s G H fl F' H' P I eq Q E hQ=>by
  refine via fun R_ k_=>?_
  obtain⟨xv,H1,e1,eq⟩:=zJ eq
  obtain⟨vv,H2,e2,eq⟩:=zJ eq
  obtain⟨yv,H3,e3,eq⟩:=zJ eq
  obtain⟨zv,e4x,eq⟩:=jB eq
  obtain⟨k,e4,eq2⟩:=jB eq
  refine k_ ?_
  clear eq
  have e4:=wF e4
  subst e4
  obtain⟨u5,H5,e5,eq3⟩:=zJ eq2
  obtain⟨e6,rfl⟩:=zF eq3
  cases e6
  refine wpAny_AugAssign_AttributeAny (ha F s G H xv H1 P I e1 _ _ fun v G1 h1' t1 s1 I1 P1 r1=>?_)
  obtain⟨q,y⟩:=op_attr (s:={ s with heap:=h1',toks:=t1 }) (A:=A) (ex:=true) K e2 I1 r1
  subst q
  refine y _ _ fun v2 G2 h2' t2 s2 I2 r2=>?_
  refine h F _ G2 _ yv _ (P1.step s2) I2 e3 _ _ fun v3 G3 h3' t3 s3 I3 P3 r3=>?_
  refine inplace_int e4x h1 h2 h3 (s3.rep r2) r3 fun w tk=>?_
  refine op_setAttr (s:={ s with heap:=h3',toks:=tk }) K e5 I3 (s3.rep (s2.rep r1)) (show Rep B G3 (.int k) (.int k w) from⟨w,rfl⟩) _ _ fun G4 h4 t4 s4 I4=>?_
  have st:=s1.trans (s2.trans (s3.trans s4))
  exact hQ _ G4 h4 t4 st.pure I4 (P.step st) trivial
end
end
section
open PySem PySem.W PyProof.Rows PySem.Calls
section
variable {B:Base}{A:Around}{T:Tabs}{sc:Scope}{ns:List (List Nat)}{env:Env}{F:AF}
theorem ev_comp (hA:A.handled=none){e t it:Expr}{cs:List Expr}{sc':Scope}{pos:Pos}{names:List (List Nat)}{caps:List (Nat×Nat)}{tg:Expr→Prop}{mi:AM (List AV)}{mt:AV→AF→AM AF}{mifs me:AF→AM AV}
    (K:ClosOk sc sc' ns names caps) (hf:noFold it=true) (htg:tg t) (hi:EvI B A T sc ns env F tg it mi)
    (ht:∀ C,AsT B A T.bare sc' names (compEnvC sc' (clos env sc'.names []) C env) t mt)
    (hifs:∀ C F,EvTs B A T.bare sc' names (compEnvC sc' (clos env sc'.names []) C env) F cs (mifs F))
    (he:∀ C F,EvE B A T.bare sc' names (compEnvC sc' (clos env sc'.names []) C env) F e (me F)) :
    EvE B A T sc ns env F (.ListComp e [⟨t,it,cs,0⟩] sc' pos) (zZ mi fun xs=>zZ (jW (capsOf F caps)) fun l=>zZ (acomp (cf mt mifs me (putCaps (List.replicate names.length none) l)) xs) fun ys =>
      zZ (jW (aif (ys.length≤line) ())) fun q_=>zH (.lst ys)):=fun s G H z H' P I eq Q E hQ=>by
  obtain⟨xs,H1,e1,eq⟩:=zJ eq
  obtain⟨l,el,eq⟩:=jB eq
  obtain⟨ys,H3,e3,eq⟩:=zJ eq
  obtain⟨hl,eq⟩:=ZZ eq
  obtain⟨rfl,rfl⟩:=zF eq
  rw[eval_ListComp]
  refine comp_run hA K hf htg hi ht hifs he P I e1 el e3 hl fun D C G1 h1 t1 m s1 I1 P1 r1 hn pC new=>⟨m,hn,fun h2 sb=>?_⟩
  have k:∀ b o,b≠C→h1.get? b=some o→h2.get? b=some o:=fun b o hb e=>sb.extBut b o hb e
  have I2:=I1.priv pC k
  have s2:Step B (· = C) G1 h1 G1 h2:=Step.own fun b o hb e=>k b o hb e
  have st:=(s1.pure.trans s2).shut fun b (hb:b=C)=>hb▸new
  exact hQ _ G1 h2 t1 st I2 (P.step st) r1
theorem ex_acomp (hA:A.handled=none){i:Nat}{n:List Nat}{x:Str}{px p:Pos}{e t it:Expr}{cs:List Expr}{sc':Scope}{pos:Pos}{names:List (List Nat)}{caps:List (Nat×Nat)}{tg:Expr→Prop}{mi:AF→AM (List AV)}{mt:AV→AF→AM AF}{mifs me:AF→AM AV}
    (hn:ns[i]? = some n) (hx:isS n x=true) (hk:jH sc x .local=true)
    (K:ClosOk sc sc' ns names caps) (hf:noFold it=true) (htg:tg t) (hi:∀ F,EvI B A T sc ns env F tg it (mi F))
    (ht:∀ C,AsT B A T.bare sc' names (compEnvC sc' (clos env sc'.names []) C env) t mt)
    (hifs:∀ C F,EvTs B A T.bare sc' names (compEnvC sc' (clos env sc'.names []) C env) F cs (mifs F))
    (he:∀ C F,EvE B A T.bare sc' names (compEnvC sc' (clos env sc'.names []) C env) F e (me F)) :
    ExS B A T sc ns env (exec (.Assign [.Name x px] (.ListComp e [⟨t,it,cs,0⟩] sc' pos) p) env) (fun F=>zZ (zZ (mi F) fun xs=>zZ (jW (capsOf F caps)) fun l=>zZ (acomp (cf mt mifs me (putCaps (List.replicate names.length none) l)) xs) fun ys =>
      zZ (jW (aif (ys.length≤line) ())) fun q_=>zH (.lst ys)) fun v=>zZ (jW (aif (i<F.length) ())) fun q_=>zH (.next,F.set i (some v))):=fun F s G H fl F' H' P I eq Q E hQ=>by
  obtain⟨z,H4,e4,eq4⟩:=zJ eq
  obtain⟨_,eq4⟩:=ZZ eq4
  obtain⟨e5,rfl⟩:=zF eq4
  cases e5
  have hx':=isS_eq hx
  subst hx'
  have hk':jH sc (toS n) (if false=true then .cell else .local)=true:=hk
  have hsw:∃ b,swapsWithSole [.Name (toS n) px] (.ListComp e [⟨t,it,cs,0⟩] sc' pos) p.line env=pure b:=⟨_,rfl⟩
  obtain⟨b,hsw⟩:=hsw
  cases b with
  | false =>
    rw[arm_exec_Assign]
    refine wpAny_bind (wpAny_standAt ?_)
    rw[hsw]
    refine wpAny_bind (wpAny_pure ?_)
    rw[if_neg (by decide)]
    refine wpAny_bind (ev_comp hA K hf htg (hi F) ht hifs he s G H z _ P I e4 _ _ fun v G1 h1 t1 s1 I1 P1 r1=>?_)
    show wpAny _ A (do assignAll v [assign (.Name (toS n) px) env];pure .next) Q E _
    exact wpAny_bind (wpAny_assign_Name (store_name (s:={ s with heap:=h1,toks:=t1 }) (c:=false) P1 I1 hn hk' (fun h=>nomatch h) r1 fun G2 h2 t2 s2 I2 P2=>wpAny_pure (hQ _ G2 h2 t2 (s1.pure.trans s2) I2 P2 trivial)))
  | true =>
    refine via fun R_ k_=>?_
    obtain⟨xs,H1,e1,e5⟩:=zJ e4
    obtain⟨l,el,e5⟩:=jB e5
    obtain⟨ys,H3,e3,e5⟩:=zJ e5
    obtain⟨hl,e5⟩:=ZZ e5
    refine k_ ?_
    clear eq e4
    obtain⟨rfl,rfl⟩:=zF e5
    rw[exec_Assign_Name_used _ _ _ _ (show swapsWith (.ListComp e [⟨t,it,cs,0⟩] sc' pos) (some (.Name (toS n) px)) p.line env=pure true from hsw)]
    refine wpAny_bind (wpAny_standAt (wpAny_bind ?_))
    show wpAny _ A (do let _ ←comprehension (.ListComp e [⟨t,it,cs,0⟩] sc' pos) sc' env (firstIterPos [⟨t,it,cs,0⟩] pos) (newList []) false (eval it env) (some (assign (.Name (toS n) px) env))) _ _ s
    refine wpAny_bind (wpAny_mono (comp_run (use:=some (assign (.Name (toS n) px) env)) (Q:=fun q_ s'=>Q .next s') (E:=E) hA K hf htg (hi F) ht hifs he P I e1 el e3 hl fun D C G1 h1 t1 m s1 I1 P1 r1 hnC pC new=>?_) (fun q_ s' hq=>wpAny_pure (wpAny_pure hq)) fun q_ q_ e=>e)
    show wpAny _ A (assign (.Name (toS n) px) env (.ref D)) _ E _
    refine wpAny_assign_Name (store_name (s:={ s with heap:=h1,toks:=t1 }) (c:=false) P1 I1 hn hk' (fun h=>nomatch h) r1 fun G2 h2 t2 s2 I2 P2=>?_)
    have nO:¬ Own sc env C:=fun q=>by
      obtain⟨o,e⟩:=P.own C q
      rw[new] at e;cases e
    refine via fun R_ k_=>?_
    obtain⟨oc,_,_,ec,_⟩:=id hnC
    refine k_ ?_
    have pC2:=pC.step s2 nO ec
    have hn2:h2.Ns C m:=hnC.at' fun o e=>s2.keep C o nO pC.la pC.lt e
    refine⟨m,hn2,fun h3 sb=>?_⟩
    have k:∀ b o,b≠C→h2.get? b=some o→h3.get? b=some o:=fun b o hb e=>sb.extBut b o hb e
    have I3:=I2.priv pC2 k
    have s3:Step B (· = C) G2 h2 G2 h3:=Step.own fun b o hb e=>k b o hb e
    have all:Step B (fun b=>Own sc env b∨b=C) G s.heap G2 h3:=s1.pure.trans ((s2.weak fun b q => .inl q).trans (s3.weak fun b q => .inr q))
    exact hQ _ G2 h3 t2 (all.shutTo fun b (hb:b=C)=>hb▸new) I3 (P2.stepX s3 fun a ha (q:a=C)=>nO (q▸ha)) trivial
inductive LInv (B:Base)(Y:Addr→Prop)(T:Tabs)(sc:Scope)(ns:List (List Nat))(env:Env)(f:Nat→Nat→AF→AM (Flo×AF))(r:(Flo×AF)×AH)(ix:Nat)(q:Addr×Option Addr)(itA:Addr)(s:Shared)(G:St)(n:Nat):Shared→Prop
  | mk {k:Nat} {F3:AF} {G3:St} {H3:AH} {h3:Heap} {t3:Tok} (st:Step B Y G s.heap G3 h3) (I:Inv B G3 H3 h3) (P:FrOK B T sc ns env F3 G3 h3) (p:Priv B G3 itA) (i:h3.IsListIter itA q.1 k) (hq:G3.al[ix]? = some q) (eq:f n k F3 H3=some r) :
    LInv B Y T sc ns env f r ix q itA s G n { s with heap:=h3,toks:=t3 }
theorem forL_some {ix:Nat}{f:AV→AF→AM (Flo×AF)}{m k:Nat}{F:AF}{H:AH}{r:(Flo×AF)×AH}(e:aforL ix f (m+1) k F H=some r):∃ xs,H[ix]? = some (.list xs) ∧
    ((xs[k]? = none∧r=((.next,F),H))∨∃ x p H1,xs[k]? = some x∧f x F H=some (p,H1)∧ZU (aforL ix f m (k+1)) p H1=some r):=by
  obtain⟨⟨n,xs⟩,H1,e1,e2⟩:=zJ e
  obtain⟨h1,h2,rfl⟩:=alist_some e1
  cases h1
  refine⟨xs,h2,?_⟩
  cases hk:xs[k]? with
  | none =>
    rw[show((n,xs):Nat×List AV).2[k]? = none from hk] at e2
    cases e2
    exact .inl ⟨rfl,rfl⟩
  | some x =>
    rw[show((n,xs):Nat×List AV).2[k]? = some x from hk] at e2
    obtain⟨p,H2,e3,e4⟩:=zJ e2
    exact .inr ⟨x,p,H2,rfl,e3,e4⟩
set_option tactic.hygienic true in
theorem ex_forL (hA:A.handled=none){t it:Expr}{a:List Stmt}{p:Pos}{me:AF→AM AV}{mt:AV→AF→AM AF}{ma:AF→AM (Flo×AF)}{W:Nat}(hf:noFold it=true)(he:∀ F,EvE B A T sc ns env F it (me F))
    (ht:AsT B A T sc ns env t mt) (ha:ExS B A T sc ns env (execs a env) ma) :
    ExS B A T sc ns env (exec (.For t it a [] p) env) (fun F=>zZ (me F) fun v=>zZ (jW (toObj v)) fun n=>aforL n (fun x F=>zZ (mt x F) fun F'=>ma F') W 0 F):=fun F s G H fl F' H' P I eq Q E hQ=>by
  obtain⟨z,H1,e1,eq2⟩:=zJ eq
  obtain⟨ix,hz,eq1⟩:=jB eq2
  have hz:=toObj_some hz
  subst hz
  clear eq eq2
  refine wpAny_For (he F s G H _ H1 P I e1 _ _ fun v G1 h1 t1 s1 I1 P1 r1=>?_) (fun x=>fold_pure hf)
  obtain⟨q,hq,rfl⟩:=r1
  have first:∃ xs,H1[ix]? = some (.list xs):=by
    cases W with
    | zero=>exact nos (α:=(Flo×AF)×AH) eq1
    | succ W=>exact(forL_some eq1).elim fun xs h=>⟨xs,h.1⟩
  obtain⟨xs0,hx0⟩:=first
  obtain⟨e2,vs0,n0,hg0,ra0⟩:=I1.objs _ _ _ hx0 hq
  refine wpAny_pyIter_list (s:={ s with heap:=h1,toks:=t1 }) ⟨_,hg0,rfl,n0,rfl⟩ ?_
  obtain⟨st2,I2,own⟩:=push_itr (B:=B) (s:={ s with heap:=h1,toks:=t1 }) I1 (o:={ cls := .type "list_iterator",data := .fields #[.ref q.1,.int 0 0] }) rfl
  dsimp only at st2 I2 own ⊢
  generalize hit:h1.objs.size=itA at *
  have newIt:s.heap.get? itA=none:=by
    cases e:s.heap.get? itA with
    | none=>rfl
    | some o =>
      obtain⟨o',e'⟩:=s1.live itA o (fun q=>q) e
      have:=Heap.lt_size e'
      rw[hit] at this
      exact absurd this (Nat.lt_irrefl _)
  have nOwn:∀ b,Own sc env b→b≠itA:=fun b hb e=>by
    obtain⟨o,e'⟩:=P.own b hb
    rw[e,newIt] at e';cases e'
  have iter0:(h1.push { cls := .type "list_iterator",data := .fields #[.ref q.1,.int 0 0] }).IsListIter itA q.1 0:=⟨_,by rw[←hit];exact Heap.get?_push_size _ rfl,rfl,rfl⟩
  refine forLoopG (LInv B (fun b=>Own sc env b∨b=itA) T sc ns env (aforL ix (fun x F=>zZ (mt x F) fun F'=>ma F')) ((fl,F'),H') ix q itA s G) (fun n s' hI=>?_) W
    (.mk (k:=0) (s1.pure.trans st2.pure) I2 (P1.step st2) ⟨own.1,own.2.1,own.2.2.1⟩ iter0 hq eq1)
  refine via fun R_ k_=>?_
  obtain⟨s3,I3,P3,p3,i3,hq3,eq⟩:=hI
  refine k_ ?_
  rename_i k F3 G3 H3 h3 t3
  cases n with
  | zero=>exact nos (α:=(Flo×AF)×AH) eq
  | succ n =>
    refine via fun R_ k_=>?_
    obtain⟨xs,hH,eq⟩:=forL_some eq
    obtain⟨e2',vs,nn,hg,ra⟩:=I3.objs _ _ _ hH hq3
    refine k_ ?_
    rcases eq with⟨hx,eq⟩ | ⟨x,⟨f1,F6⟩,H6,hx,e6,eq6⟩
    · cases eq
      have hnone:vs[k]? = none:=by
        cases e:vs[k]? with
        | none=>rfl
        | some u =>
          obtain⟨x,hx',_⟩:=repL_at ra k u (by rw[Array.getElem?_toList];exact e)
          rw[hx] at hx';cases hx'
      refine wpAny_pyNext_list_end (s:={ s with heap:=h3,toks:=t3 }) hA i3 ⟨_,hg,rfl,nn,rfl⟩ hnone fun h4 eb=>wpAny_execs_nil ?_
      have k4:∀ b o,b≠itA→h3.get? b=some o→h4.get? b=some o:=fun b o hb e=>eb b o hb e
      have I4:=I3.priv p3 k4
      have s4:Step B (· = itA) G3 h3 G3 h4:=Step.own fun b o hb e=>k4 b o hb e
      have all:Step B (fun b=>Own sc env b∨b=itA) G s.heap G3 h4:=s3.trans (s4.weak fun b q => .inr q)
      exact hQ _ G3 h4 t3 (all.shutTo fun b (hb:b=itA)=>hb▸newIt) I4 (P3.stepX s4 fun b hb (e:b=itA)=>nOwn b hb e) trivial
    · obtain ⟨u,hu,ru⟩:=repL_get ra k x hx
      rw[Array.getElem?_toList] at hu
      refine wpAny_pyNext_list_item (s:={ s with heap:=h3,toks:=t3 }) i3 ⟨_,hg,rfl,nn,rfl⟩ hu fun h4 i4 sb=>?_
      dsimp only at sb
      have k4:∀ b o,b≠itA→h3.get? b=some o→h4.get? b=some o:=fun b o hb e=>sb.extBut b o hb e
      have I4:=I3.priv p3 k4
      have s4:Step B (· = itA) G3 h3 G3 h4:=Step.own fun b o hb e=>k4 b o hb e
      have P4:=P3.stepX s4 fun b hb (e:b=itA)=>nOwn b hb e
      obtain⟨o4,eo4,co4,_⟩:=id i4
      refine goes_plain (B:=B) (X:=fun q_=>False) (S:=fun q_ h=>h.IsListIter itA q.1 (k+1)) (v:=u) eo4 co4 (by decide) I4 i4 A t { s with heap:=h4,toks:=t3 } trivial rfl _ _ fun G5 h5 t5 s5 I5 i5=>?_
      have s5':Step B (fun q_=>False) G3 h4 G5 h5:=s5
      obtain⟨F7,H7,e7,e8⟩:=zJ e6
      have nO:¬ Own sc env itA:=fun e=>nOwn _ e rfl
      have P5:=P4.stepX s5' fun q_ q_ q=>q
      have p5:=p3.step s5' (fun q=>q) eo4
      have s35:Step B (fun b=>Own sc env b∨b=itA) G s.heap G5 h5:=s3.trans ((s4.weak fun b q => .inr q).trans (s5'.weak fun b q=>q.elim))
      refine ht F3 _ G5 H3 x u F7 H7 P5 I5 (s5'.rep ru) e7 _ _ fun G7 h7 t7 s7 I7 P7=>?_
      have s7':Step B (Own sc env) G5 h5 G7 h7:=s7
      obtain⟨o5,eo5,_⟩:=id i5
      have i7:h7.IsListIter itA q.1 (k+1):=Heap.IsListIter.at i5 fun o e=>s7'.keep itA o nO p5.la p5.lt e
      have p7:=p5.step s7' nO eo5
      refine ha F7 _ G7 H7 f1 F6 H6 P7 I7 e8 _ _ fun f G8 h8 t8 s8 I8 P8 r8=>?_
      have s8':Step B (Own sc env) G7 h7 G8 h8:=s8
      obtain⟨o7,eo7,_⟩:=id i7
      have i8:h8.IsListIter itA q.1 (k+1):=Heap.IsListIter.at i7 fun o e=>s8'.keep itA o nO p7.la p7.lt e
      have p8:=p7.step s8' nO eo7
      have all:Step B (fun b=>Own sc env b∨b=itA) G s.heap G8 h8:=s35.trans ((s7'.weak fun b q => .inl q).trans (s8'.weak fun b q => .inl q))
      cases f1 with
      | next =>
        cases f with
        | next=>exact⟨n,Nat.lt_succ_self n,.mk (k:=k+1) all I8 P8 p8 i8 (s8'.alAt (s7'.alAt (s5'.alAt hq3))) eq6⟩
        | _=>exact r8.elim
      | ret v =>
        obtain⟨e9,rfl⟩:=zF eq6
        cases e9
        cases f with
        | ret u=>exact hQ _ G8 h8 t8 (all.shutTo fun b (hb:b=itA)=>hb▸newIt) I8 P8 r8
        | _=>exact r8.elim
end
end
section
open PySem PySem.W PyProof.Rows PySem.Calls
section
variable {B:Base}{A:Around}{T:Tabs}{sc:Scope}{ns:List (List Nat)}{env:Env}{F:AF}
noncomputable abbrev EvD (B:Base)(A:Around)(T:Tabs)(sc:Scope)(ns:List (List Nat))(env:Env)(F:AF){K:Type} [DecidableEq K](knd:KeyKind B.prog B.w K)(keys:List K)(p:Pos)(kes:List (Option Expr))(ves:List Expr)(m:AM (List AV)):Prop :=
  Ev B A (FrOK B T sc ns env F) (evalPairs (pairTrees kes ves env p)) (fun G xs prs=>∃ kvs:List (K×Value),Carries knd prs kvs∧kvs.map (·.1)=keys∧RepL B G xs (kvs.map (·.2))) m
theorem evD_nil {K:Type} [DecidableEq K]{knd:KeyKind B.prog B.w K}{p:Pos}{ves:List Expr}:EvD B A T sc ns env F knd [] p [] ves (zH []):=fun s G H x H' hP I e Q E hQ=>by
  obtain⟨rfl,rfl⟩:=zF e
  exact wpAny_pure (hQ [] G s.heap s.toks (Step.refl ..) I hP ⟨[],trivial,rfl,rfl⟩)
theorem evD_cons {K:Type} [DecidableEq K]{knd:KeyKind B.prog B.w K}{k:K}{keys:List K}{p:Pos}{ke:Expr}{kes:List (Option Expr)}{ve:Expr}{ves:List Expr}{m:AM AV}{ms:AM (List AV)}
    (hk:∀ (s:Shared) (Q:Value→Shared→Prop) (E:Value→Shared→Prop),(∀ v tk,knd.is k v=true→Q v { s with toks:=tk })→wpAny (model B.prog B.w) A (eval ke env) Q E s)
    (hv:EvE B A T sc ns env F ve m) (hr:EvD B A T sc ns env F knd keys p kes ves ms):EvD B A T sc ns env F knd (k::keys) p (some ke::kes) (ve::ves) (zZ m fun x=>zZ ms fun xs=>zH (x::xs)):=fun s G H xs H' hP I eq Q E hQ=>by
  obtain⟨x,H1,e1,eq1⟩:=zJ eq
  obtain⟨xs',H2,e2,eq2⟩:=zJ eq1
  obtain⟨rfl,rfl⟩:=zF eq2
  show wpAny _ A (do
    let kv ←eval ke env
    let vv ←holding [kv] (do let x ←eval ve env;standAt p;pure x)
    let r ←holding [kv,vv] (evalPairs (pairTrees kes ves env p))
    pure ((kv,vv)::r)) Q E s
  refine wpAny_bind (hk s _ _ fun kv tk hkv=>?_)
  refine wpAny_bind (wpAny_holding (wpAny_bind (hv { s with toks:=tk } G H x H1 hP I e1 _ _ fun v G1 h1 t1 s1 I1 P1 r1=>wpAny_bind (wpAny_standAt (wpAny_pure ?_)))))
  refine wpAny_bind (wpAny_holding (hr _ G1 H1 xs' _ P1 I1 e2 _ _ fun prs G2 h2 t2 s2 I2 P2 r2=>wpAny_pure ?_))
  obtain⟨kvs,c1,c2,c3⟩:=r2
  exact hQ _ G2 h2 t2 (s1.trans s2) I2 P2 ⟨(k,v)::kvs,⟨hkv,rfl,c1⟩,by simp[c2],v,_,rfl,s2.rep r1,c3⟩
theorem ev_display {K:Type} [DecidableEq K]{knd:KeyKind B.prog B.w K}{keys:List K}{p:Pos}{kes:List (Option Expr)}{ves:List Expr}{ms:AM (List AV)}(h:EvD B A T sc ns env F knd keys p kes ves ms)
    (hall:kes.all (·.isSome)=true) (hl:kes.length=ves.length) (h0:kes≠[]) (hlen:kes.length≤15) (hkl:keys.length=kes.length) (nd:keys.Nodup)
    {s:Shared} {G:St} {H H':AH} {xs:List AV} (P:FrOK B T sc ns env F G s.heap) (I:Inv B G H s.heap) (eq:ms H=some (xs,H')) {Q:Value→Shared→Prop} {E:Value→Shared→Prop}
    (hQ:∀ G' h' tk' kvs,Step B Pure G s.heap G' h'→Inv B G' H' h'→FrOK B T sc ns env F G' h'→Priv B G' s.heap.objs.size→h'.DictOf knd s.heap.objs.size kvs→kvs.map (·.1)=keys→RepL B G' xs (kvs.map (·.2))→Q (.ref s.heap.objs.size) { s with heap:=h',toks:=tk' }) :
    wpAny (model B.prog B.w) A (eval (.Dict kes ves p) env) Q E s:=by
  have k0:∀ b o,s.heap.get? b=some o→(s.heap.push ({ cls := .type "dict",data := .dict #[] }:Obj)).get? b=some o:=fun b o e=>Heap.get?_push_of_some _ e
  have s0:Step B Pure G s.heap G (s.heap.push { cls := .type "dict",data := .dict #[] }):=Step.priv k0
  have I0:Inv B G H (s.heap.push { cls := .type "dict",data := .dict #[] }):=I.keeps fun b o q_ e=>k0 b o e
  have p0:Priv B G s.heap.objs.size:=Priv.new I (Nat.le_refl _)
  have d0:(s.heap.push ({ cls := .type "dict",data := .dict #[] }:Obj)).get? s.heap.objs.size=some { cls := .type "dict",data := .dict #[] }:=Heap.get?_push_size _ rfl
  refine wpAny_Dict_pairs (knd:=knd) (zip_pairTrees kes ves env p hall hl) (fun e=>?_) (by rw[pairTrees_length kes ves env p hall hl];exact hlen) ?_
  · have:=pairTrees_length kes ves env p hall hl
    rw[e] at this
    exact h0 (List.length_eq_zero_iff.mp this.symm)
  refine h { s with heap:=s.heap.push { cls := .type "dict",data := .dict #[] } } G H xs H' (P.step s0) I0 eq _ _ fun prs G1 h1 t1 s1 I1 P1 r1=>?_
  obtain⟨kvs,c1,c2,c3⟩:=r1
  dsimp only at s1
  have p1:=p0.step s1 (fun q=>q) d0
  have d1:=s1.keep _ _ (fun q=>q) p0.la p0.lt d0
  refine⟨kvs,c1,⟨_,#[],0,d1,⟨rfl,rfl,rfl⟩,rfl,(fun e he=>absurd he (by simp)),.nil,List.nodup_nil⟩,fun h2 hd sb=>?_⟩
  have kn:(kvs.map (·.1)).Nodup:=by rw[c2];exact nd
  rw[merged_nil_of_nodup kvs kn] at hd
  have k2:∀ b o,b≠s.heap.objs.size→h1.get? b=some o→h2.get? b=some o:=fun b o hb e=>sb.extBut b o hb e
  have I2:=I1.priv p1 k2
  have s2:Step B (· = s.heap.objs.size) G1 h1 G1 h2:=Step.own fun b o hb e=>k2 b o hb e
  have st:=((s0.trans s1).pure.trans s2).shut fun b (hb:b=s.heap.objs.size)=>hb▸Heap.get?_end _
  exact hQ G1 h2 _ kvs st I2 (P.step st) p1 hd c2 c3
theorem valueAt_find {K:Type} [DecidableEq K]{keys:List K}{xs:List AV}{G:St}:∀ {kvs:List (K×Value)},kvs.map (·.1)=keys→RepL B G xs (kvs.map (·.2))→∀ (k:K)(x:AV),((keys.zip xs).find? fun p=>decide (k=p.1)).map (·.2)=some x →
    ∃ v,valueAt kvs k=some v∧Rep B G x v:=by
  induction keys generalizing xs with
  | nil=>intro kvs _ _ k x e;cases e
  | cons k0 keys ih =>
    intro kvs hk hr k x e
    cases kvs with
    | nil=>cases hk
    | cons p kvs =>
      obtain⟨pk,pv⟩:=p
      rw[List.map_cons] at hk
      injection hk with hk1 hk2
      cases xs with
      | nil=>cases e
      | cons y ys =>
        refine via fun R_ k_=>?_
        obtain⟨v,r,er,ra,rb⟩:=hr
        refine k_ ?_
        rw[List.map_cons] at er
        injection er with er1 er2
        subst er1 er2
        dsimp only at hk1
        subst hk1
        rw[List.zip_cons_cons,List.find?_cons] at e
        unfold valueAt
        rw[List.find?_cons]
        by_cases hkk:k=pk
        · subst hkk
          rw[decide_eq_true rfl] at e ⊢
          dsimp only at e
          cases e
          exact⟨_,rfl,ra⟩
        · have d1:decide (k=pk)=false:=decide_eq_false hkk
          have d2:decide (pk=k)=false:=decide_eq_false fun q=>hkk q.symm
          rw[d1] at e
          rw[show(decide ((pk,pv).1=k))=false from d2]
          exact ih hk2 rb k x e
theorem find_toS (cs:List Nat):∀ (ks:List (List Nat))(xs:List AV),(((ks.map toS).zip xs).find? fun p=>decide (toS cs=p.1)).map (·.2)=((ks.zip xs).find? fun p=>decide (cs=p.1)).map (·.2)
  | [],_=>rfl
  | k::ks,[]=>rfl
  | k :: ks,x::xs=>by
    rw[List.map_cons,List.zip_cons_cons,List.zip_cons_cons,List.find?_cons,List.find?_cons]
    by_cases q:cs=k
    · simp[q]
    · simp only[q,toS_inj,decide_false]
      exact find_toS cs ks xs
theorem ev_pick {ks:List (List Nat)}{p p':Pos}{kes:List (Option Expr)}{ves:List Expr}{se:Expr}{ms:AM (List AV)}{mk:AM AV}
    (h:EvD B A T sc ns env F (strKind B.prog B.w) (ks.map toS) p kes ves ms) (hall:kes.all (·.isSome)=true) (hl:kes.length=ves.length) (h0:kes≠[]) (hlen:kes.length≤15) (hkl:ks.length=kes.length) (nd:ks.Nodup)
    (hs:isName se=true) (hk:EvE B A T sc ns env F se mk) :
    EvE B A T sc ns env F (.Subscript (.Dict kes ves p) se p') (zZ ms fun xs=>zZ mk fun v=>zZ (jW (toStr v)) fun s=>jW (((ks.zip xs).find? fun p=>decide (s=p.1)).map (·.2))):=fun s G H z H' P I eq Q E hQ=>by
  refine via fun R_ k_=>?_
  obtain⟨xs,H1,e1,eq1⟩:=zJ eq
  obtain⟨cs,H2,e2,eq2⟩:=abind_str eq1
  refine k_ ?_
  clear eq eq1
  obtain⟨e3,rfl⟩:=ZW eq2
  have ndS:(ks.map toS).Nodup:=List.Pairwise.map toS (fun a b (q:a≠b) q'=>q (toS_inj.mp q')) nd
  refine sub_item (fun l u p q=>by rw[q] at hs;exact bad hs) (ev_display h hall hl h0 hlen (by rw[List.length_map,hkl]) ndS P I e1 fun G1 h1 t1 kvs s1 I1 P1 p1 hd hkv rv=>?_)
  refine hk { s with heap:=h1,toks:=t1 } G1 H1 _ _ P1 I1 e2 _ _ fun w G2 h2 t2 s2 I2 P2 r2=>?_
  dsimp only at s2
  obtain⟨od,es,ep,ed,rest⟩:=id hd
  have hd2:h2.DictOf (strKind B.prog B.w) s.heap.objs.size kvs:=⟨od,es,ep,s2.keep _ _ (fun q=>q) p1.la p1.lt ed,rest⟩
  obtain⟨t,rfl⟩:=r2
  have e4:(((ks.map toS).zip xs).find? fun p=>decide (toS cs=p.1)).map (·.2)=some z:=by
    rw[←e3];exact find_toS cs ks xs
  obtain⟨u,hu,ru⟩:=valueAt_find (B:=B) hkv rv (toS cs) z e4
  exact⟨"dict",_,hd2.typeIs (s:={ s with heap:=h2,toks:=t2 }),slot_dict_getitem.lookup,wpAny_getItem_of (knd:=strKind B.prog B.w) (s:={ s with heap:=h2,toks:=t2 }) (strKind_is _ _ _ t) hd2.mapOf hu (hQ u G2 h2 _ (s1.trans s2) I2 (P.step (s1.trans s2)) (s2.rep ru))⟩
theorem evD_str {cs:List Nat}{x:Str}{k:Nat}{p:Pos}(hx:isS cs x=true)(s:Shared)(Q:Value→Shared→Prop)(E:Value→Shared→Prop)(hQ:∀ v tk,(strKind B.prog B.w).is (toS cs) v=true→Q v { s with toks:=tk }) :
    wpAny (model B.prog B.w) A (eval (.Constant (.str x) k p) env) Q E s:=by
  rw[isS_eq hx]
  exact wpAny_Constant_str (hQ _ _ (strKind_is _ _ _ _))
theorem isNm_i {ns:List (List Nat)}{i:Nat}{x:Str}(h:isNm ns i x=true):∃ n,ns[i]? = some n∧isS n x=true:=onS_i h
end
end
section
open PySem PySem.W PyProof.Rows PySem.Calls
section
variable {B:Base}{A:Around}{T:Tabs}{sc:Scope}{ns:List (List Nat)}{env:Env}{F:AF}
theorem set_comm' {F:AF}{i j:Nat}{x y:Option AV}(h:i≠j):(F.set i x).set j y=(F.set j y).set i x:=List.set_comm _ _ h
theorem asets_cons:∀ (is:List Nat)(xs:List AV)(F:AF)(i:Nat)(x:AV),i ∉ is→asets is xs (F.set i (some x))=(asets is xs F).set i (some x)
  | [],xs,F,i,x,_=>rfl
  | j::is,[],F,i,x,_=>rfl
  | j::is,y::xs,F,i,x,h=>by
    rw[List.mem_cons,not_or] at h
    show asets is xs ((F.set i (some x)).set j (some y))=(asets is xs (F.set j (some y))).set i (some x)
    rw[set_comm' h.1]
    exact asets_cons is xs _ i x h.2
noncomputable def Ord (M:Model)(A:Around)(E:Value→Shared→Prop):List (Value→Sem Unit)→List Value→(Unit→Shared→Prop)→Shared→Prop
  | [],[],Q,s=>Q () s
  | t::ts,x::xs,Q,s=>wpAny M A (t x) (fun q_ s'=>Ord M A E ts xs Q s') E s
  | _,_,_,_=>False
theorem Ord.run {M:Model}{E:Value→Shared→Prop}:∀ {ts:List (Value→Sem Unit)}{xs:List Value}{Q:Unit→Shared→Prop}{s:Shared},Ord M A E ts xs Q s→wpAny M A (assignInOrder ts xs) Q E s
  | [],[],Q,s,h=>wpAny_pure h
  | [],_::_,_,_,h=>h.elim
  | _::_,[],_,_,h=>h.elim
  | t::ts,x::xs,Q,s,h=>by
    show wpAny M A (do holding xs (t x);assignInOrder ts xs) Q E s
    exact wpAny_bind (wpAny_holding (wpAny_mono h (fun q_ q_ q=>Ord.run q) fun q_ q_ e=>e))
theorem Ord.snoc {M:Model}{E:Value→Shared→Prop}{b:Value→Sem Unit}{x:Value}:∀ {ts:List (Value→Sem Unit)}{xs:List Value}{Q:Unit→Shared→Prop}{s:Shared},Ord M A E ts xs (fun q_ s'=>wpAny M A (b x) Q E s') s→Ord M A E (ts++[b]) (xs++[x]) Q s
  | [],[],Q,s,h=>wpAny_mono h (fun q_ q_ q=>q) fun q_ q_ e=>e
  | [],_::_,_,_,h=>h.elim
  | _::_,[],_,_,h=>h.elim
  | t::ts,y::xs,Q,s,h=>wpAny_mono h (fun q_ q_ q=>Ord.snoc q) fun q_ q_ e=>e
theorem mNs_nil {ts:List Expr}(h:mNs sc ns [] ts=true):ts=[]:=on0_i h
theorem mNs_cons {i:Nat}{is:List Nat}{ts:List Expr}(h:mNs sc ns (i::is) ts=true):∃ x p r n,ts = .Name x p::r∧ns[i]? = some n∧isS n x=true∧jH sc x .local=true∧mNs sc ns is r=true:=by
  refine onC_e (f:=_) h fun x r h=>?_
  have h:=(Bool.and_eq_true _ _).mp h
  refine onName_e h.1 fun y p h1=>?_
  have h1:=(Bool.and_eq_true _ _).mp h1
  obtain⟨n,hn,hx⟩:=isNm_i h1.1
  exact⟨y,p,r,n,rfl,hn,hx,h1.2,h.2⟩
theorem stores_rev:∀ (is:List Nat)(ts:List Expr)(xs:List AV)(vs:List Value)(F:AF)(s:Shared)(G:St)(H:AH)(Q:Unit→Shared→Prop)(E:Value→Shared→Prop),mNs sc ns is ts=true→is.Nodup→FrOK B T sc ns env F G s.heap→Inv B G H s.heap→RepL B G xs vs→xs.length=is.length →
    (∀ G' h' tk',Step B (Own sc env) G s.heap G' h'→Inv B G' H h'→FrOK B T sc ns env (asets is xs F) G' h'→Q () { s with heap:=h',toks:=tk' }) →
    ∃ names:List Str,ts.filterMap (fun t=>match t with | .Name id _=>some id | _=>none)=names∧names.length=ts.length∧ts.length=is.length∧names.map (·.cps.toList)=is.map (fun i=>(ns[i]?).getD [])∧(∀ x∈names,jH sc x .local=true) ∧
      Ord (model B.prog B.w) A E ((names.map fun n=>bindName env n).reverse) vs.reverse Q s:=fun is=>by
  induction is with
  | nil =>
    intro ts xs vs F s G H Q E hm nd P I rs hl hQ
    have hm:=mNs_nil hm
    subst hm
    cases xs with
    | nil =>
      rw[show vs=[] from rs]
      exact⟨[],rfl,rfl,rfl,rfl,fun q_ h=>(List.not_mem_nil h).elim,hQ G s.heap s.toks (Step.refl ..) I P⟩
    | cons _ _=>cases hl
  | cons i is ih =>
    intro ts xs vs F s G H Q E hm nd P I rs hl hQ
    obtain⟨x,p,r,n,rfl,hni,hn,hk,hr⟩:=mNs_cons hm
    rw[List.nodup_cons] at nd
    cases xs with
    | nil=>cases hl
    | cons y ys =>
      obtain⟨v,vr,rfl,ry,rr⟩:=rs
      have hx:=isS_eq hn
      subst hx
      obtain ⟨names,a1,a2,a3,a4,a5,a6⟩:=ih r ys vr F s G H (fun q_ s'=>wpAny (model B.prog B.w) A (bindName env (toS n) v) Q E s') E hr nd.2 P I rr (by simpa using hl) fun G1 h1 t1 s1 I1 P1=>by
        refine wpAny_bindName ?_
        have hk':jH sc (toS n) (if false=true then .cell else .local)=true:=hk
        exact store_name (s:={ s with heap:=h1,toks:=t1 }) (c:=false) P1 I1 hni hk' (fun h=>nomatch h) (s1.rep ry) fun G2 h2 t2 s2 I2 P2=>hQ G2 h2 t2 (s1.trans s2) I2 (by
          show FrOK B T sc ns env (asets is ys (F.set i (some y))) G2 h2
          rw[asets_cons is ys F i y nd.1];exact P2)
      refine⟨toS n::names,?_,?_,?_,?_,?_,?_⟩
      · exact congrArg (fun l=>toS n::l) a1
      · exact congrArg Nat.succ a2
      · exact congrArg Nat.succ a3
      · rw[List.map_cons,List.map_cons,a4,hni]
        rfl
      · intro z hz
        rcases List.mem_cons.mp hz with rfl | hz
        · exact hk
        · exact a5 z hz
      · rw[List.map_cons,List.reverse_cons,List.reverse_cons]
        exact a6.snoc
theorem dups2 {a b:Str}(h:[a,b].Nodup):([a,b].eraseDups.length != [a,b].length)=false:=by
  have:a≠b:=by simpa using h
  have hb:(b==a)=false:=by rw[beq_eq_false_iff_ne];exact fun q=>this q.symm
  simp[List.eraseDups,List.eraseDupsBy,List.eraseDupsBy.loop,hb]
theorem dups3 {a b c:Str}(h:[a,b,c].Nodup):([a,b,c].eraseDups.length != [a,b,c].length)=false:=by
  simp only[List.nodup_cons,List.mem_cons,List.not_mem_nil,or_false,not_or] at h
  obtain⟨⟨h1,h2⟩,h3,_⟩:=h
  have hb:(b==a)=false:=by rw[beq_eq_false_iff_ne];exact fun q=>h1 q.symm
  have hc:(c==a)=false:=by rw[beq_eq_false_iff_ne];exact fun q=>h2 q.symm
  have hd:(c==b)=false:=by rw[beq_eq_false_iff_ne];exact fun q=>h3 q.symm
  simp[List.eraseDups,List.eraseDupsBy,List.eraseDupsBy.loop,hb,hc,hd]
theorem names_line {line:Nat}:∀ {ts:List Expr}{names:List Str},ts.filterMap (fun t=>match t with | .Name id _=>some id | _=>none)=names→names.length=ts.length→(∀ t∈ts,(t.pos.line==line)=true)→(∀ x∈names,env.kindOf x=some .local) →
    ts.filterMap (fun t=>match t with
      | .Name id pos=>if env.kindOf id==some .local&&pos.line==line then some id else none
      | _=>none)=names
  | [],names,h,_,_,_=>h
  | t :: ts,names,h,hl,hln,hk=>by
    have sub:(ts.filterMap (fun t=>match t with | .Name id _=>some id | _=>none)).length≤ts.length:=List.length_filterMap_le _ _
    have no:ts.filterMap (fun t=>match t with | .Name id _=>some id | _=>none)=names→False:=fun h=>by
      rw[h,hl] at sub
      exact Nat.not_succ_le_self _ sub
    cases t with
    | Name id pos =>
      subst h
      have h2:(pos.line==line)=true:=hln _ List.mem_cons_self
      have e:(if(env.kindOf id==some .local&&pos.line==line)=true then some id else none)=some id:=by rw[hk id List.mem_cons_self,h2];rfl
      have ih:=names_line (line:=line) rfl (Nat.succ.inj hl) (fun t ht=>hln t (List.mem_cons_of_mem _ ht)) fun x hx=>hk x (List.mem_cons_of_mem _ hx)
      exact Eq.trans (List.filterMap_cons_some e) (congrArg (fun l=>id::l) ih)
    | _=>exact(no h).elim
theorem swapped_names {ts vs:List Expr}{k1 k2:Nat}{p1 p2:Pos}{names:List Str}(h2:(ts.length==2||ts.length==3)=true)(hvl:vs.length=ts.length)(hk:env.scope.kind = .function)(hst:(vs.all fun e => !isStar e)=true)
    (hln:∀ t∈ts,(t.pos.line==(ts.head?.map (·.pos.line)).getD 0)=true) (hn:ts.filterMap (fun t=>match t with | .Name id _=>some id | _=>none)=names) (hnl:names.length=ts.length) (hloc:∀ x∈names,env.kindOf x=some .local) (nd:names.Nodup)
    (f1:vs.all (foldedForSure 8)=false) (f2:vs.all (constantsAlone 8)=false):swappedStores [.Tuple ts k1 p1] (.Tuple vs k2 p2) env=pure (some names):=by
  have c1:(!(ts.length==2||ts.length==3)||vs.length != ts.length||env.blockKind != .function)=false:=by
    have:env.blockKind = .function:=by unfold Env.blockKind;rw[hk];rfl
    rw[h2,hvl,this];simp
  have c2:(vs.any fun | .Starred .. =>true | _=>false)=false:=by
    rw[List.any_eq_false]
    intro x hx
    rw[List.all_eq_true] at hst
    have:=hst x hx
    cases x <;> first | exact bad this | exact fun q=>Bool.noConfusion q
  have c3:=names_line (env:=env) hn hnl hln hloc
  have c4:(names.length != ts.length||names.eraseDups.length != names.length)=false:=by
    rw[hnl]
    have:(names.eraseDups.length != names.length)=false:=by
      simp only[Bool.or_eq_true,beq_iff_eq] at h2
      match names,nd,hnl with
      | [a,b],nd,_=>exact dups2 nd
      | [a,b,c],nd,_=>exact dups3 nd
      | [],_,e=>rw[←e] at h2;exact absurd h2 (of_decide_eq_false rfl)
      | [a],_,e=>rw[←e] at h2;exact absurd h2 (of_decide_eq_false rfl)
      | _::_::_::_::_,_,e=>simp at e;omega
    rw[hnl] at this
    simp[this]
  have key:swappedStores [.Tuple ts k1 p1] (.Tuple vs k2 p2) env=(if(!(ts.length==2||ts.length==3)||vs.length != ts.length||env.blockKind != .function)=true then pure none else
      if(vs.any fun | .Starred .. =>true | _=>false)=true then pure none else
      if ((ts.filterMap (fun t=>match t with
        | .Name id pos=>if env.kindOf id==some .local&&pos.line==(ts.head?.map (·.pos.line)).getD 0 then some id else none
        | _=>none)).length != ts.length||(ts.filterMap (fun t=>match t with
        | .Name id pos=>if env.kindOf id==some .local&&pos.line==(ts.head?.map (·.pos.line)).getD 0 then some id else none
        | _=>none)).eraseDups.length != (ts.filterMap (fun t=>match t with
        | .Name id pos=>if env.kindOf id==some .local&&pos.line==(ts.head?.map (·.pos.line)).getD 0 then some id else none
        | _=>none)).length)=true then pure none else
      if(vs.all (foldedForSure 8))=true then pure none else
      if (vs.all (constantsAlone 8))=true then(do let _ ←(unsupported "assign.tuple-of-constant-expressions:order-of-the-stores" : Sem PUnit);return some (ts.filterMap (fun t=>match t with
        | .Name id pos=>if env.kindOf id==some .local&&pos.line==(ts.head?.map (·.pos.line)).getD 0 then some id else none
        | _=>none))) else pure (some (ts.filterMap (fun t=>match t with
        | .Name id pos=>if env.kindOf id==some .local&&pos.line==(ts.head?.map (·.pos.line)).getD 0 then some id else none
        | _=>none)))):=by
    exact rfl
  rw[key,c3]
  simp only[c1,c2,c4,f1,f2,Bool.false_eq_true,if_false]
theorem names_of (hnod:ns.Nodup):∀ (is:List Nat)(ts:List Expr),mNs sc ns is ts=true→is.Nodup →
    ∃ names:List Str,ts.filterMap (fun t=>match t with | .Name id _=>some id | _=>none)=names∧names.length=ts.length∧ts.length=is.length∧(∀ x∈names,jH sc x .local=true∧∃ j∈is,∃ n,ns[j]? = some n∧x=toS n)∧names.Nodup:=fun is=>by
  induction is with
  | nil =>
    intro ts hm nd
    have hm:=mNs_nil hm
    subst hm
    exact⟨[],rfl,rfl,rfl,fun q_ h=>(List.not_mem_nil h).elim,List.nodup_nil⟩
  | cons i is ih =>
    intro ts hm nd
    obtain⟨x,p,r,n,rfl,hni,hn,hk,hr⟩:=mNs_cons hm
    rw[List.nodup_cons] at nd
    have hx:=isS_eq hn
    subst hx
    refine via fun R_ k_=>?_
    obtain⟨names,a1,a2,a3,a4,a5⟩:=ih r hr nd.2
    refine k_ ?_
    refine⟨toS n::names,?_,by simp[a2],by simp[a3],fun z hz=>?_,?_⟩
    · rw[List.filterMap_cons];simp[a1]
    · rcases List.mem_cons.mp hz with rfl | hz
      · exact⟨hk,i,List.mem_cons_self,n,hni,rfl⟩
      · obtain⟨c1,j,c2,c3⟩:=a4 z hz
        exact⟨c1,j,List.mem_cons_of_mem _ c2,c3⟩
    · rw[List.nodup_cons]
      refine⟨fun hmem=>?_,a5⟩
      refine via fun R_ k_=>?_
      obtain⟨_,j,c2,n',c3,c4⟩:=a4 _ hmem
      refine k_ ?_
      rw[toS_inj] at c4;subst c4
      exact nd.1 (nodup_at hnod hni c3▸c2)
theorem ex_swap (hA:A.handled=none){is:List Nat}{ts vs:List Expr}{k1 k2:Nat}{p1 p2 p:Pos}{ms:AF→AM (List AV)}(hm:mNs sc ns is ts=true)(nd:is.Nodup)(h2:(ts.length==2||ts.length==3)=true)(hvl:vs.length=ts.length)(hst:(vs.all fun e => !isStar e)=true)
    (hln:∀ t∈ts,(t.pos.line==(ts.head?.map (·.pos.line)).getD 0)=true) (f1:vs.all (foldedForSure 8)=false) (f2:vs.all (constantsAlone 8)=false) (hl:∀ F,EvL B A T sc ns env F p2 vs (ms F)) (hlt:∀ F H xs H',ms F H=some (xs,H')→xs.length≤1000) :
    ExS B A T sc ns env (exec (.Assign [.Tuple ts k1 p1] (.Tuple vs k2 p2) p) env) (fun F=>zZ (ms F) fun xs=>zZ (jW (aif (xs.length=is.length∧is.all (fun i=>decide (i<F.length))=true) ())) fun q_=>zH (.next,asets is xs F)):=fun F s G H fl F' H' P I eq Q E hQ=>by
  obtain⟨xs,H1,e1,eq1⟩:=zJ eq
  clear eq
  obtain⟨hc,eq1⟩:=ZZ eq1
  · obtain ⟨e2,rfl⟩:=zF eq1
    cases e2
    have hlen:∀ {vs':List Value} {G':St},RepL B G' xs vs'→vs'.length=is.length:=fun r=>by rw[r.len,hc.1]
    refine via fun R_ k_=>?_
    obtain⟨names,a1,a2,a3,a4,ndn⟩:=names_of P.nod is ts hm nd
    refine k_ ?_
    refine Assign_Tuple_swapped (names:=names) (ev_tup (hl F) (hlt F) s G H (.tup xs) H' P I (by rw[wV e1];rfl) _ _ fun v G1 h1 t1 s1 I1 P1 r1=>?_) rfl (swapped_names h2 hvl P.kind hst hln a1 a2 (fun x hx=>P.kl x (a4 x hx).1) ndn f1 f2)
    · obtain ⟨b,us,rfl,hb,ra⟩:=isTup (s:={ s with heap:=h1,toks:=t1 }) I1 r1
      have hsz:names.length=us.size:=by
        rw[ZQ ra,hc.1,a2,a3]
      rw[hsz]
      refine unpackItems_tuple hA hb fun h2' ke=>?_
      have k:∀ b o,h1.get? b=some o→h2'.get? b=some o:=fun b o e=>ke b o (ne_end (s:={ s with heap:=h1,toks:=t1 }) e) e
      have st:Step B Pure G1 h1 G1 h2':=Step.priv k
      obtain⟨names',b1,b2,b3,b4,b5,b6⟩:=stores_rev is ts xs us.toList F { s with heap:=h2',toks:=t1 } G1 H' (fun q_=>Q .next) E hm nd (P1.step st) (I1.keeps fun b o q_ e=>k b o e) ra hc.1 fun G3 h3 t3 s3 I3 P3=>hQ _ G3 h3 t3 (s1.pure.trans (st.pure.trans s3)) I3 P3 trivial
      have en:names'=names:=by rw[←b1,←a1]
      subst en
      rw[List.map_reverse]
      exact b6.run
end
end
section
set_option backward.match.sparseCases false
open PySem PySem.W PyProof.Rows PySem.Calls
theorem jQ {a b:Bool}(h:(a&&b)=true):a=true∧b=true:=(Bool.and_eq_true _ _).mp h
theorem and2 {a b:Bool}{P:Prop}(k:a=true→b=true→P)(H:(a&&b)=true):P:=k (jQ H).1 (jQ H).2
theorem and3 {a b c:Bool}{P:Prop}(k:a=true→b=true→c=true→P)(H:(a&&b&&c)=true):P:=and2 (fun ha hb=>k ha hb (jQ H).2) (jQ H).1
theorem and4 {a b c d:Bool}{P:Prop}(k:a=true→b=true→c=true→d=true→P)(H:(a&&b&&c&&d)=true):P:=and3 (fun ha hb hc=>k ha hb hc (jQ H).2) (jQ H).1
theorem and5 {a b c d e:Bool}{P:Prop}(k:a=true→b=true→c=true→d=true→e=true→P)(H:(a&&b&&c&&d&&e)=true):P:=and4 (fun ha hb hc hd=>k ha hb hc hd (jQ H).2) (jQ H).1
theorem and6 {a b c d e f:Bool}{P:Prop}(k:a=true→b=true→c=true→d=true→e=true→f=true→P)(H:(a&&b&&c&&d&&e&&f)=true):P:=and5 (fun ha hb hc hd he=>k ha hb hc hd he (jQ H).2) (jQ H).1
theorem and7 {a b c d e f g:Bool}{P:Prop}(k:a=true→b=true→c=true→d=true→e=true→f=true→g=true→P)(H:(a&&b&&c&&d&&e&&f&&g)=true):P:=and6 (fun ha hb hc hd he hf=>k ha hb hc hd he hf (jQ H).2) (jQ H).1
theorem and8 {a b c d e f g h:Bool}{P:Prop}(k:a=true→b=true→c=true→d=true→e=true→f=true→g=true→h=true→P)(H:(a&&b&&c&&d&&e&&f&&g&&h)=true):P:=and7 (fun ha hb hc hd he hf hg=>k ha hb hc hd he hf hg (jQ H).2) (jQ H).1
theorem and9 {a b c d e f g h i:Bool}{P:Prop}(k:a=true→b=true→c=true→d=true→e=true→f=true→g=true→h=true→i=true→P)(H:(a&&b&&c&&d&&e&&f&&g&&h&&i)=true):P:=and8 (fun ha hb hc hd he hf hg hh=>k ha hb hc hd he hf hg hh (jQ H).2) (jQ H).1
structure Hyp (B:Base)(A:Around)(call':AV→List AV→AM AV):Prop where
  O:BaseOk B
  K:ClassesOk B
  Sr:SrcOk B
  CO:CodeOk B
  LO:LamOk B
  C:CallOK B A call'
  hA:A.handled=none
  hu:A.units+6<cLine
noncomputable abbrev Orc:=AV→List AV→AM AV
structure XE where
  ev:Glo→Orc→AF→AM AV
  mt:Tabs→Scope→List (List Nat)→Expr→Bool
  ok:∀ {B A call'},Hyp B A call'→∀ {T sc ns x},mt T sc ns x=true→∀ env F,EvE B A T sc ns env F x (ev B.Gl call' F)∧EvT B A T sc ns env F x (ev B.Gl call' F)
noncomputable def tgOf:Bool→Expr→Prop
  | true=>TupTg
  | false=>fun q_=>True
structure XI where
  sr:Glo→Orc→AF→AM (List AV)
  pr:Bool
  mt:Tabs→Scope→List (List Nat)→Expr→Bool
  ok:∀ {B A call'},Hyp B A call'→∀ {T sc ns x},mt T sc ns x=true→∀ env F,EvI B A T sc ns env F (tgOf pr) x (sr B.Gl call' F)
structure XT where
  st:Glo→Orc→AV→AF→AM AF
  mt:Tabs→Scope→List (List Nat)→Expr→Bool
  ok:∀ {B A call'},Hyp B A call'→∀ {T sc ns x},mt T sc ns x=true→∀ env,AsT B A T sc ns env x (st B.Gl call')
structure XS where
  ex:Glo→Orc→Nat→AF→AM (Flo×AF)
  mt:Tabs→Scope→List (List Nat)→Stmt→Bool
  ok:∀ {B A call'},Hyp B A call'→∀ W {T sc ns x},mt T sc ns x=true→∀ env,env.scope.kind = .function→ExS B A T sc ns env (exec x env) (ex B.Gl call' W)
section
variable (G:Glo)(call:Orc)(F:AF)
noncomputable def evs (es:List XE):AM (List AV):=@List.rec XE (fun q_=>AM (List AV)) (zH []) (fun e q_ ih=>zZ (e.ev G call F) fun x=>zZ ih fun xs=>zH (x::xs)) es
noncomputable def ands (es:List XE):AM AV:=@List.rec XE (fun q_=>AM AV) (zH (.bool true)) (fun e q_ ih=>zZ (e.ev G call F) fun v=>zZ (jW (wH v)) fun t=>if t then ih else zH (.bool false)) es
noncomputable def ors (es:List XE):AM AV:=@List.rec XE (fun q_=>AM AV) (zH (.bool false)) (fun e q_ ih=>zZ (e.ev G call F) fun v=>zZ (jW (wH v)) fun t=>if t then zH (.bool true) else ih) es
end
noncomputable def mEs (T:Tabs)(sc:Scope)(ns:List (List Nat)):List XE→List Expr→Bool
  | []=>on0
  | e::r=>onC fun x xs => !isStar x&&e.mt T sc ns x&&mEs T sc ns r xs
section
variable {B:Base}{A:Around}{T:Tabs}{sc:Scope}{ns:List (List Nat)}{env:Env}{F:AF}
inductive PairE (B:Base)(A:Around)(T:Tabs)(sc:Scope)(ns:List (List Nat))(env:Env)(call':AV→List AV→AM AV)(F:AF):List XE→List Expr→Prop
  | nil:PairE B A T sc ns env call' F [] []
  | cons {e:XE} {r:List XE} {x:Expr} {xs:List Expr}:isStar x=false→EvE B A T sc ns env F x (e.ev B.Gl call' F)∧EvT B A T sc ns env F x (e.ev B.Gl call' F)→PairE B A T sc ns env call' F r xs→PairE B A T sc ns env call' F (e::r) (x::xs)
variable {call':AV→List AV→AM AV}
theorem pairE (y:Hyp B A call')(env:Env)(F:AF):∀ {es:List XE}{xs:List Expr},mEs T sc ns es xs=true→PairE B A T sc ns env call' F es xs
  | [],xs,h=>by
    have h:=on0_i (show on0 xs=true from h)
    subst h
    exact .nil
  | e::r,xs,h=>by
    refine onC_e (f:=_) h fun x xs h=>?_
    have h:=jQ h
    have g:=jQ h.1
    exact .cons (not_i g.1) (e.ok y g.2 env F) (pairE y env F h.2)
theorem PairE.noStar {es:List XE}{xs:List Expr}(h:PairE B A T sc ns env call' F es xs):(xs.all fun e => !isStar e)=true:=by
  induction h with
  | nil=>rfl
  | cons h1 _ _ ih=>rw[List.all_cons,h1,ih];rfl
theorem PairE.evL {es:List XE}{xs:List Expr}{p:Pos}(h:PairE B A T sc ns env call' F es xs):EvL B A T sc ns env F p xs (evs B.Gl call' F es):=by
  induction h with
  | nil=>exact evl_nil
  | cons h1 h2 _ ih=>exact evl_cons h1 h2.1 ih
theorem PairE.len {es:List XE}{xs:List Expr}(h:PairE B A T sc ns env call' F es xs):∀ H ys H',evs B.Gl call' F es H=some (ys,H')→ys.length=xs.length:=by
  induction h with
  | nil=>intro H ys H' e;obtain⟨rfl,_⟩:=zF (show zH [] H=some (ys,H') from e);rfl
  | cons h1 h2 _ ih =>
    intro H ys H' e
    obtain⟨y,H1,e1,e2⟩:=zJ (show zZ (XE.ev _ B.Gl call' F) (fun x=>zZ (evs B.Gl call' F _) fun xs=>zH (x::xs)) H=some (ys,H') from e)
    obtain⟨zs,H2,e3,e4⟩:=zJ e2
    obtain⟨rfl,rfl⟩:=zF e4
    rw[List.length_cons,List.length_cons,ih _ _ _ e3]
theorem PairE.nilA {es:List XE}(h:PairE B A T sc ns env call' F es []):ands B.Gl call' F es=zH (.bool true)∧ors B.Gl call' F es=zH (.bool false):=by
  cases h;exact⟨rfl,rfl⟩
theorem PairE.evA {es:List XE}{xs:List Expr}{p:Pos}(h:PairE B A T sc ns env call' F es xs):EvB B A T sc ns env F p .And xs (ands B.Gl call' F es):=by
  induction h with
  | nil=>exact evB_nilA
  | cons h1 h2 h3 ih=>exact evB_consA h2 ih (fun e=>by subst e;exact h3.nilA.1) rfl
theorem PairE.evO {es:List XE}{xs:List Expr}{p:Pos}(h:PairE B A T sc ns env call' F es xs):EvB B A T sc ns env F p .Or xs (ors B.Gl call' F es):=by
  induction h with
  | nil=>exact evB_nilO
  | cons h1 h2 h3 ih=>exact evB_consO h2 ih (fun e=>by subst e;exact h3.nilA.2) rfl
theorem PairE.evTs {es:List XE}{xs:List Expr}(h:PairE B A T sc ns env call' F es xs):EvTs B A T sc ns env F xs (ands B.Gl call' F es):=by
  induction h with
  | nil=>exact evTs_nil
  | cons h1 h2 _ ih=>exact evTs_cons h2.2 ih
theorem mKs_cons {k:List Nat}{ks:List (List Nat)}{kes:List (Option Expr)}(h:mKs (k::ks) kes=true):∃ x c p r,kes=some (.Constant (.str x) c p)::r∧isS k x=true∧mKs ks r=true:=by
  refine onC_e (f:=_) h fun o r h=>?_
  have h:=(Bool.and_eq_true _ _).mp h
  refine onS_e h.1 fun x h1=>?_
  refine onConstant_e h1 fun c k1 p1 h1=>?_
  refine coStr_e h1 fun y h1=>?_
  exact⟨y,k1,p1,r,rfl,h1,h.2⟩
theorem PairE.evD {es:List XE}{xs:List Expr}{p:Pos}(h:PairE B A T sc ns env call' F es xs):∀ {ks:List (List Nat)}{kes:List (Option Expr)},mKs ks kes=true→ks.length=xs.length→EvD B A T sc ns env F (strKind B.prog B.w) (ks.map toS) p kes xs (evs B.Gl call' F es)∧kes.all (·.isSome)=true∧ks.length=kes.length:=by
  induction h with
  | nil =>
    intro ks kes hk hl
    cases ks with
    | nil =>
      have hk:=on0_i (show on0 kes=true from hk)
      subst hk
      exact⟨evD_nil,rfl,rfl⟩
    | cons _ _=>cases hl
  | cons h1 h2 _ ih =>
    intro ks kes hk hl
    cases ks with
    | nil=>cases hl
    | cons k ks =>
      obtain⟨x,c,p,r,rfl,h1,h3⟩:=mKs_cons hk
      obtain⟨a,b,c⟩:=ih h3 (by simpa using hl)
      exact⟨evD_cons (fun s Q E hQ=>evD_str h1 s Q E hQ) h2.1 a,by simpa using b,by simp[c]⟩
theorem valE {x:Expr}{m:AM AV}(h:EvE B A T sc ns env F x m)(he:isTrue x env (eval x env)=(do let v ←eval x env;standAt x.pos;holding [v] (truthy v))):EvE B A T sc ns env F x m∧EvT B A T sc ns env F x m:=⟨h,evT_value h he⟩
theorem ev_boolop {op:BoolOp}{xs:List Expr}{p:Pos}{m:AM AV}(h:EvB B A T sc ns env F p op xs m)(hne:xs≠[]):EvE B A T sc ns env F (.BoolOp op xs p) m∧EvT B A T sc ns env F (.BoolOp op xs p) m :=
  ⟨fun s G H x H' P I e Q E hQ=>h.1 hne s G H x H' P I e Q E hQ,fun s G H x H' P I e Q E hQ=>by
    have:=h.2 s G H x H' P I e Q E hQ
    exact this⟩
end
noncomputable def jV:XE:=⟨fun q_ q_ q_=>zH .none,fun q_ q_ q_=>onConstant fun c q_ q_=>coNone true c,fun y T sc ns x h env F=>by
    obtain⟨c,k,p,rfl,h⟩:=onConstant_i (f:=_) h
    obtain⟨rfl,_⟩:=coNone_i h
    exact valE ev_none rfl⟩
noncomputable def n_bool (b:Bool):XE:=⟨fun q_ q_ q_=>zH (.bool b),fun q_ q_ q_=>onConstant fun c q_ q_=>coBool (fun d=>b==d) c,fun y T sc ns x h env F=>by
    obtain⟨c,k,p,rfl,h⟩:=onConstant_i (f:=_) h
    refine coBool_e h fun d h=>?_
    have h:=eq_of_beq h
    subst h
    exact valE ev_bool rfl⟩
noncomputable def zX (i:Int):XE:=⟨fun q_ q_ q_=>zH (.int i),fun q_ q_ q_=>onConstant fun c q_ q_=>coInt (fun d=>decide (i=d)) c,fun y T sc ns x h env F=>by
    obtain⟨c,k,p,rfl,h⟩:=onConstant_i (f:=_) h
    refine coInt_e h fun d h=>?_
    have h:=of_decide_eq_true h;subst h
    exact valE ev_int rfl⟩
noncomputable def jA (s:List Nat):XE:=⟨fun q_ q_ q_=>zH (.str s),fun q_ q_ q_=>onConstant fun c q_ q_=>coStr (isS s) c&&decide (s.length≤line),fun y T sc ns x h env F=>by
    obtain⟨c,k,p,rfl,h⟩:=onConstant_i (f:=_) h
    refine coStr_e (jQ h).1 fun d hh=>?_
    exact valE (ev_str hh) rfl⟩
noncomputable def zQ (i:Nat):XE:=⟨fun q_ q_ F=>jW (nth F i),fun T sc ns=>onName fun x q_=>isNm ns i x&&inFrame sc x&&x != ("__debug__" : Str)&&x != ("__classdict__" : Str),fun y T sc ns x h env F=>by
    obtain⟨id,p,rfl,h⟩:=onName_i (f:=_) h
    have h:=jQ h
    have g:=jQ h.1
    have k:=jQ g.1
    obtain⟨n,hn,hx⟩:=isNm_i k.1
    rw[nth_eq]
    exact valE (ev_var hn hx k.2 (not_i g.2) (not_i h.2)) rfl⟩
noncomputable def zB (k:Nat):XE:=⟨fun G q_ q_=>jW (G.val k),fun T sc ns=>onName fun x q_=>isNm T.gnames k x&&jH sc x .globalImplicit&&x != ("__debug__" : Str),fun y T sc ns x h env F=>by
    obtain⟨id,p,rfl,h⟩:=onName_i (f:=_) h
    have h:=jQ h
    have g:=jQ h.1
    obtain⟨n,hn,hx⟩:=isNm_i g.1
    exact valE (ev_gl y.O hn hx g.2 (not_i h.2)) rfl⟩
noncomputable def jC (es:List XE):XE:=⟨fun G call F=>zZ (evs G call F es) fun xs=>zH (.tup xs),fun T sc ns=>onTuple fun xs q_ q_=>mEs T sc ns es xs&&decide (xs.length≤100),fun y T sc ns x h env F=>by
    obtain⟨xs,k,p,rfl,h⟩:=onTuple_i (f:=_) h
    have h:=jQ h
    have hl:=of_decide_eq_true h.2
    have p:=pairE y env F h.1
    exact valE (ev_tup p.evL fun H xs H' e=>Nat.le_trans (Nat.le_of_eq (p.len _ _ _ e)) (Nat.le_trans hl (by decide))) rfl⟩
noncomputable def n_lst (mu:Bool)(es:List XE):XE:=⟨fun G call F=>zZ (evs G call F es) fun xs=>amk mu xs,fun T sc ns=>onList fun xs q_=>mEs T sc ns es xs&&decide (xs.length≤100),fun y T sc ns x h env F=>by
    obtain⟨xs,p,rfl,h⟩:=onList_i (f:=_) h
    have h:=jQ h
    have hl:=of_decide_eq_true h.2
    have p:=pairE y env F h.1
    exact valE (ev_lst p.evL fun H xs H' e=>Nat.le_trans (Nat.le_of_eq (p.len _ _ _ e)) (Nat.le_trans hl (by decide))) rfl⟩
noncomputable def n_neg (a:XE):XE:=⟨fun G call F=>zZ (a.ev G call F) fun v=>zZ (jW (wY v)) fun i=>zH (.int (-i)),fun T sc ns=>onUnaryOp fun o x q_=>decide (o = .USub)&&a.mt T sc ns x,fun y T sc ns x h env F=>by
    obtain⟨o,x,p,rfl,h⟩:=onUnaryOp_i (f:=_) h
    have h:=jQ h
    have e:=of_decide_eq_true h.1
    subst e
    exact valE (ev_neg (a.ok y h.2 env F).1) rfl⟩
noncomputable def n_not (a:XE):XE:=⟨fun G call F=>zZ (a.ev G call F) fun v=>zZ (jW (wH v)) fun b=>zH (.bool (!b)),fun T sc ns=>onUnaryOp fun o x q_=>decide (o = .Not)&&a.mt T sc ns x,fun y T sc ns x h env F=>by
    obtain⟨o,x,p,rfl,h⟩:=onUnaryOp_i (f:=_) h
    have h:=jQ h
    have e:=of_decide_eq_true h.1
    subst e
    have ih:=a.ok y h.2 env F
    exact ev_not ih.1 ih.2 rfl⟩
noncomputable def jZ (o:Op2)(a b:XE):XE:=⟨fun G call F=>zZ (a.ev G call F) fun x=>zZ (b.ev G call F) fun y=>jW (abin o x y),fun T sc ns=>onBinOp fun l p r q_=>op2 o p&&a.mt T sc ns l&&b.mt T sc ns r,fun y T sc ns x h env F=>by
    obtain⟨l,q,r,p,rfl,h⟩:=onBinOp_i (f:=_) h
    have h:=jQ h
    have g:=jQ h.1
    have e:=op2_eq g.1
    subst e
    exact valE (ev_bin (a.ok y g.2 env F).1 (b.ok y h.2 env F).1) rfl⟩
noncomputable def zD (o:OpC)(a b:XE):XE:=⟨fun G call F=>zZ (a.ev G call F) fun x=>zZ (b.ev G call F) fun y=>jW ((JW o x y).map .bool),
  fun T sc ns=>onCompare fun l ps rs q_=>on1 (fun p=>on1 (fun r=>opC o p&&a.mt T sc ns l&&b.mt T sc ns r && !behindInMarks p r) rs) ps,fun y T sc ns x h env F=>by
    obtain⟨l,ps,rs,p,rfl,h⟩:=onCompare_i (f:=_) h
    refine on1_e h fun q h=>?_
    refine on1_e h fun r h=>?_
    have h:=jQ h
    have g:=jQ h.1
    have k:=jQ g.1
    have e:=opC_eq k.1
    subst e
    exact ev_cmp y.hu (a.ok y k.2 env F).1 (b.ok y g.2 env F).1 (not_i h.2)⟩
noncomputable def n_cmp2 (o p:OpC)(a b c:XE):XE:=⟨fun G call F=>zZ (a.ev G call F) fun x=>zZ (b.ev G call F) fun y=>zZ (jW (JW o x y)) fun t=>if t then zZ (c.ev G call F) fun z=>jW ((JW p y z).map .bool) else zH (.bool false),
  fun T sc ns=>onCompare fun l ps rs q_=>on2 (fun q r=>on2 (fun x y=>opC o q&&opC p r && !behindInMarks r y&&a.mt T sc ns l&&b.mt T sc ns x&&c.mt T sc ns y) rs) ps,fun y T sc ns x h env F=>by
    obtain⟨l,ps,rs,p,rfl,h⟩:=onCompare_i (f:=_) h
    refine on2_e h fun q r h=>?_
    refine on2_e h fun x z h=>?_
    refine and6 (fun h1 h2 h3 h4 h5 h6=>?_) h
    cases opC_eq h1
    cases opC_eq h2
    exact ev_cmp2 y.hu (a.ok y h4 env F).1 (b.ok y h5 env F).1 (c.ok y h6 env F).1 (not_i h3) rfl⟩
noncomputable def ZH (es:List XE):XE:=⟨fun G call F=>ands G call F es,fun T sc ns=>onBoolOp fun o xs q_=>decide (o = .And)&&mEs T sc ns es xs&&decide (2≤xs.length),fun y T sc ns x h env F=>by
    obtain⟨o,xs,p,rfl,h⟩:=onBoolOp_i (f:=_) h
    have h:=jQ h
    have g:=jQ h.1
    have e:=of_decide_eq_true g.1
    subst e
    have hl:=of_decide_eq_true h.2
    exact ev_boolop (pairE y env F g.2).evA (fun q=>by subst q;exact absurd hl (by decide))⟩
noncomputable def n_or (es:List XE):XE:=⟨fun G call F=>ors G call F es,fun T sc ns=>onBoolOp fun o xs q_=>decide (o = .Or)&&mEs T sc ns es xs&&decide (2≤xs.length),fun y T sc ns x h env F=>by
    obtain⟨o,xs,p,rfl,h⟩:=onBoolOp_i (f:=_) h
    have h:=jQ h
    have g:=jQ h.1
    have e:=of_decide_eq_true g.1
    subst e
    have hl:=of_decide_eq_true h.2
    exact ev_boolop (pairE y env F g.2).evO (fun q=>by subst q;exact absurd hl (by decide))⟩
noncomputable def n_ite (c a b:XE):XE:=⟨fun G call F=>zZ (c.ev G call F) fun v=>zZ (jW (wH v)) fun t=>if t then a.ev G call F else b.ev G call F,fun T sc ns=>onIfExp fun t x y q_=>c.mt T sc ns t&&a.mt T sc ns x&&b.mt T sc ns y,fun y T sc ns x h env F=>by
    obtain⟨t,u,v,p,rfl,h⟩:=onIfExp_i (f:=_) h
    have h:=jQ h
    have g:=jQ h.1
    exact ev_ite (c.ok y g.1 env F).2 (a.ok y g.2 env F) (b.ok y h.2 env F) rfl⟩
noncomputable def zA (a i:XE):XE:=⟨fun G call F=>zZ (a.ev G call F) fun x=>zZ (i.ev G call F) fun y=>aread fun H=>asub H x y,fun T sc ns=>onSubscript fun v s q_ => !isSlice s&&a.mt T sc ns v&&i.mt T sc ns s,fun y T sc ns x h env F=>by
    obtain⟨v,s,p,rfl,h⟩:=onSubscript_i (f:=_) h
    have h:=jQ h
    have g:=jQ h.1
    exact valE (ev_sub (not_i g.1) (a.ok y g.2 env F).1 (i.ok y h.2 env F).1) rfl⟩
noncomputable def evp (G:Glo)(call:Orc)(F:AF)(o:Option XE):AM AV:=o.rec (zH .none) fun e=>e.ev G call F
noncomputable def mP (T:Tabs)(sc:Scope)(ns:List (List Nat))(o:Option XE)(l:Option Expr):Bool:=l.rec o.isNone fun x=>o.rec false fun e=>e.mt T sc ns x
noncomputable def mSlc (T:Tabs)(sc:Scope)(ns:List (List Nat))(a:XE)(lo hi:Option XE):Expr→Bool:=onSubscript fun v s q_=>onSlice (fun l u t q_=>onN t&&a.mt T sc ns v&&mP T sc ns lo l&&mP T sc ns hi u) s
theorem part_i {B:Base}{A:Around}{call':AV→List AV→AM AV}(y:Hyp B A call'){T:Tabs}{sc:Scope}{ns:List (List Nat)}{o:Option XE}{l:Option Expr}(h:mP T sc ns o l=true)(env:Env)(F:AF):EvP B A T sc ns env F l (evp B.Gl call' F o):=by
  cases l with
  | none =>
    cases o with
    | none=>exact evp_none
    | some e=>exact bad h
  | some x =>
    cases o with
    | none=>exact bad h
    | some e=>exact(e.ok y h env F).1
theorem slc_i {T:Tabs}{sc:Scope}{ns:List (List Nat)}{a:XE}{lo hi:Option XE}{x:Expr}(h:mSlc T sc ns a lo hi x=true):∃ v l u p q,x = .Subscript v (.Slice l u none p) q∧a.mt T sc ns v=true∧mP T sc ns lo l=true∧mP T sc ns hi u=true:=by
  obtain⟨v,s,q,rfl,h⟩:=onSubscript_i (f:=_) h
  refine onSlice_e h fun l u t p h=>?_
  have h:=jQ h
  have g:=jQ h.1
  have k:=jQ g.1
  have e:=onN_i k.1
  subst e
  exact⟨v,l,u,p,q,rfl,k.2,g.2,h.2⟩
noncomputable def n_slc (a:XE)(lo hi:Option XE):XE:=⟨fun G call F=>zZ (a.ev G call F) fun x=>zZ (evp G call F lo) fun l=>zZ (evp G call F hi) fun h=>aread fun H=>aslc H x l h,fun T sc ns=>mSlc T sc ns a lo hi,fun y T sc ns x h env F=>by
    obtain⟨v,l,u,p,q,rfl,h1,h2,h3⟩:=slc_i h
    exact valE (ev_slc (a.ok y h1 env F).1 (part_i y h2 env F) (part_i y h3 env F)) rfl⟩
noncomputable def n_slm (a:XE)(lo hi:Option XE):XE:=⟨fun G call F=>zZ (a.ev G call F) fun x=>zZ (evp G call F lo) fun l=>zZ (evp G call F hi) fun h=>zZ (aread fun H=>aslc H x l h) fun v=>zZ (jW (toLst v)) fun xs=>anewL xs,fun T sc ns=>mSlc T sc ns a lo hi,fun y T sc ns x h env F=>by
    obtain⟨v,l,u,p,q,rfl,h1,h2,h3⟩:=slc_i h
    exact valE (ev_slm (a.ok y h1 env F).1 (part_i y h2 env F) (part_i y h3 env F)) rfl⟩
noncomputable def jU (a:XE)(f:Fld):XE:=⟨fun G call F=>zZ (a.ev G call F) fun x=>agetA x f,fun T sc ns=>onAttribute fun v n q_=>decide (n=f.name)&&a.mt T sc ns v&&isName v,fun y T sc ns x h env F=>by
    obtain⟨v,n,p,rfl,h⟩:=onAttribute_i (f:=_) h
    have h:=jQ h
    have g:=jQ h.1
    have h1:=of_decide_eq_true g.1
    subst h1
    obtain⟨id,q,rfl,_⟩:=onName_i h.2
    refine valE ?_ rfl
    · intro s G H z H' P I eq Q E hQ
      obtain⟨w,H1,e1,eq1⟩:=zJ eq
      refine Attribute_Name_ ((a.ok y g.2 env F).1 s G H w H1 P I e1 _ _ fun v G1 h1 t1 s1 I1 P1 r1=>?_)
      obtain⟨q,yy⟩:=op_attr (s:={ s with heap:=h1,toks:=t1 }) (A:=_) (ex:=true) y.K eq1 I1 r1
      subst q
      exact yy.use P1 s1 fun v G' h' tk'=>hQ v G' h' tk'⟩
noncomputable def zK (f:XE)(args:List XE):XE:=⟨fun G call F=>zZ (f.ev G call F) fun x=>zZ (evs G call F args) fun xs=>acallB call x xs,fun T sc ns=>onCall fun g xs ks q_=>on0 ks&&f.mt T sc ns g&&mEs T sc ns args xs&&isName g&&decide (xs.length≤10),fun y T sc ns x h env F=>by
    obtain⟨g,xs,ks,p,rfl,h⟩:=onCall_i (f:=_) h
    have h:=jQ (jQ h).1
    have h3:=h.2
    have h:=jQ h.1
    have h2:=h.2
    have h:=jQ h.1
    have e:=on0_i h.1
    subst e
    have p:=pairE y env F h2
    exact valE (ev_call y.C y.hA h3 p.noStar (f.ok y h.2 env F).1 p.evL) rfl⟩
noncomputable def n_meth (o:XE)(m:Me)(args:List XE):XE:=⟨fun G call F=>zZ (o.ev G call F) fun x=>zZ (amty m x) fun q_=>zZ (evs G call F args) fun xs=>ame m x xs,
  fun T sc ns=>onCall fun g xs ks pos=>on0 ks&&onAttribute (fun v n apos=>decide (n=m.name)&&o.mt T sc ns v&&mEs T sc ns args xs&&oneLine v apos pos&&decide (xs.length≤10) && !isCall v) g,fun y T sc ns x h env F=>by
    obtain⟨g,xs,ks,pos,rfl,h⟩:=onCall_i (f:=_) h
    have h:=jQ h
    cases on0_i h.1
    refine onAttribute_e h.2 fun v n apos hh=>?_
    refine and6 (fun h1 h2 h3 h4 h5 h6=>?_) hh
    cases of_decide_eq_true h1
    have p:=pairE y env F h3
    exact valE (ev_meth p.noStar (of_decide_eq_true h5) (not_i h6) h4 (o.ok y h2 env F).1 p.evL) rfl⟩
noncomputable def ZK (o:XE)(k:Nat)(args:List XE):XE:=⟨fun G call F=>zZ (o.ev G call F) fun x=>zZ (aclsOf x) fun c=>zZ (jW (G.mth c k)) fun j=>zZ (evs G call F args) fun xs=>call (.fn j) (x::xs),
  fun T sc ns=>onCall fun g xs ks pos=>on0 ks&&onAttribute (fun v n apos=>isNm T.mnames k n&&o.mt T sc ns v&&mEs T sc ns args xs&&oneLine v apos pos&&decide (xs.length≤10)&&isName v) g,fun y T sc ns x h env F=>by
    obtain⟨g,xs,ks,pos,rfl,h⟩:=onCall_i (f:=_) h
    have h:=jQ h
    cases on0_i h.1
    refine onAttribute_e h.2 fun v n apos hh=>?_
    refine and6 (fun h1 h2 h3 h4 h5 h6=>?_) hh
    obtain⟨nm,hn,hx⟩:=isNm_i h1
    have p:=pairE y env F h3
    exact valE (ev_own y.K y.C p.noStar (of_decide_eq_true h5) h6 h4 hn hx (o.ok y h2 env F).1 p.evL) rfl⟩
noncomputable def mComp (T:Tabs)(sc:Scope)(ns names:List (List Nat))(elt:XE)(t:XT)(src:XI)(ifs:List XE)(caps:List (Nat×Nat)):Expr→Bool :=
  onListComp fun e gs sc' q_=>on1 (fun g=>decide (g.is_async=0)&&closOk sc sc' ns names caps&&(!src.pr||onTuple (fun q_ q_ q_=>true) g.target)&&src.mt T sc ns g.iter&&t.mt T.bare sc' names g.target&&elt.mt T.bare sc' names e&&mEs T.bare sc' names ifs g.ifs&&noFold g.iter) gs
theorem tg_i {b:Bool}{x:Expr}(h:(!b||onTuple (fun q_ q_ q_=>true) x)=true):tgOf b x:=by
  cases b with
  | false=>exact trivial
  | true =>
    obtain⟨_,_,_,rfl,_⟩:=onTuple_i (f:=_) h
    exact⟨_,_,_,rfl⟩
theorem comp_i {T:Tabs}{sc:Scope}{ns names:List (List Nat)}{elt:XE}{t:XT}{src:XI}{ifs:List XE}{caps:List (Nat×Nat)}{x:Expr}(h:mComp T sc ns names elt t src ifs caps x=true) :
    ∃ e tg it cs sc' p,x = .ListComp e [⟨tg,it,cs,0⟩] sc' p∧closOk sc sc' ns names caps=true∧tgOf src.pr tg∧src.mt T sc ns it=true∧t.mt T.bare sc' names tg=true∧elt.mt T.bare sc' names e=true∧mEs T.bare sc' names ifs cs=true∧noFold it=true:=by
  obtain⟨e,gs,sc',p,rfl,h⟩:=onListComp_i (f:=_) h
  obtain⟨⟨tg,it,cs,z⟩,rfl,h⟩:=on1_i h
  have h:=jQ h
  have h7:=h.2
  have h:=jQ h.1
  have h6:=h.2
  have h:=jQ h.1
  have h5:=h.2
  have h:=jQ h.1
  have h4:=h.2
  have h:=jQ h.1
  have h3:=h.2
  have h:=jQ h.1
  have h2:=h.2
  have h:=jQ h.1
  have e:=of_decide_eq_true h.1
  change z=0 at e
  subst e
  exact⟨_,_,_,_,_,_,rfl,h.2,tg_i h2,h3,h4,h5,h6,h7⟩
noncomputable def evComp (G:Glo)(call:Orc)(F:AF)(names:List (List Nat))(elt:XE)(t:XT)(src:XI)(ifs:List XE)(caps:List (Nat×Nat)):AM AV :=
  zZ (src.sr G call F) fun xs=>zZ (jW (capsOf F caps)) fun l=>zZ (acomp (cf (t.st G call) (fun F=>ands G call F ifs) (fun F=>elt.ev G call F) (putCaps (List.replicate names.length none) l)) xs) fun ys=>zZ (jW (aif (ys.length≤line) ())) fun q_=>zH (.lst ys)
noncomputable def n_comp (names:List (List Nat))(elt:XE)(t:XT)(src:XI)(ifs:List XE)(caps:List (Nat×Nat)):XE:=⟨fun G call F=>evComp G call F names elt t src ifs caps,fun T sc ns=>mComp T sc ns names elt t src ifs caps,fun y T sc ns x h env F=>by
    refine via fun R_ k_=>?_
    obtain⟨e,tg,it,cs,sc',p,rfl,h1,h2,h3,h4,h5,h6,h7⟩:=comp_i h
    refine k_ ?_
    exact valE (ev_comp y.hA (closOk_iff h1) h7 h2 (src.ok y h3 env F) (fun C'=>t.ok y h4 _) (fun C' F'=>(pairE y _ F' h6).evTs) (fun C' F'=>(elt.ok y h5 _ F').1)) rfl⟩
noncomputable def n_pick (ks:List (List Nat))(vs:List XE)(k:XE):XE:=⟨fun G call F=>zZ (evs G call F vs) fun xs=>zZ (k.ev G call F) fun v=>zZ (jW (toStr v)) fun s=>jW (((ks.zip xs).find? fun p=>decide (s=p.1)).map (·.2)),
  fun T sc ns=>onSubscript fun d s q_=>onDict (fun kes ves q_=>mKs ks kes&&mEs T sc ns vs ves&&k.mt T sc ns s&&decide (ks.length≤15)&&decide ks.Nodup&&decide (ks.length=ves.length)&&isName s && !ks.isEmpty) d,fun y T sc ns x h env F=>by
    obtain⟨d,se,p,rfl,h⟩:=onSubscript_i (f:=_) h
    refine onDict_e h fun kes ves dp h=>?_
    refine and8 (fun h1 h2 h3 h4 h5 h6 h7 h8=>?_) h
    have h6:=of_decide_eq_true h6
    obtain⟨d1,d2,d3⟩:=(pairE y env F h2).evD (p:=dp) h1 h6
    exact valE (ev_pick d1 d2 (by rw[←d3,h6]) (fun q=>by subst q;rw[List.length_eq_zero_iff.mp d3] at h8;cases h8) (by rw[←d3];exact of_decide_eq_true h4) d3 (of_decide_eq_true h5) h7 (k.ok y h3 env F).1) rfl⟩
noncomputable def n_lam (k:Nat)(names:List (List Nat))(caps:List (Nat×Nat)):XE:=⟨fun G call F=>zZ (jW (capsOf F caps)) fun l=>zH (.clo k l),
  fun T sc ns=>onLambda fun args body sc' q_=>T.lamE k names args body sc'&&closOk sc sc' ns names caps&&decide (T.sfx=some [60,108,97,109,98,100,97,62]),fun y T sc ns x h env F=>by
    obtain⟨args,body,sc',p,rfl,h⟩:=onLambda_i (f:=_) h
    have h:=jQ h
    have g:=jQ h.1
    exact valE (ev_lam y.O y.CO y.LO g.1 g.2 (of_decide_eq_true h.2)) rfl⟩
end
section
set_option backward.match.sparseCases false
open PySem PySem.W PyProof.Rows PySem.Calls
section
variable {B:Base}{A:Around}{T:Tabs}{sc:Scope}{ns:List (List Nat)}{env:Env}
noncomputable def starless (x:Expr):Bool := !onTuple (fun vs q_ q_=>vs.any isStar) x
theorem not_i_any {vs:List Expr}{k:Nat}{p:Pos}(h:starless (.Tuple vs k p)=true):(vs.all fun e => !isStar e)=true:=by
  have h:vs.any isStar=false:=not_i h
  rw[List.all_eq_not_any_not]
  simp only[Bool.not_not]
  rw[h];rfl
set_option tactic.hygienic true in
theorem ordered {tg x:Expr}(h:inOrder tg x=true)(hk:env.scope.kind = .function)(hst:starless x=true):swappedStores [tg] x env=pure none:=by
  cases tg with
  | Tuple ts k p =>
    cases x with
    | Tuple vs k2 p2 =>
      have hst:(vs.all fun e => !isStar e)=true:=not_i_any hst
      have h:=(Bool.or_eq_true _ _).mp (show(ts.any (fun t => !isName t)||vs.all (foldedForSure 8))=true from h)
      unfold swappedStores
      dsimp only
      split
      · rfl
      · split
        · rfl
        · split
          · rfl
          · rename_i h1 h2 h3
            rcases h with h | h
            · exfalso
              apply h3
              rw[Bool.or_eq_true]
              left
              rw[bne_iff_ne]
              intro hl
              rw[List.any_eq_true] at h
              obtain⟨t,ht,hnm⟩:=h
              have : ∀ (ts:_root_.List Expr) (f:Expr→Option Str),(∀ t∈ts,(f t).isSome=true→isName t=true)→(ts.filterMap f).length=ts.length→∀ t∈ts,isName t=true:=by
                intro ts f hf
                induction ts with
                | nil=>intro _ t ht;cases ht
                | cons a ts ih =>
                  intro hl t ht
                  have sub:(ts.filterMap f).length≤ts.length:=List.length_filterMap_le _ _
                  rw[List.filterMap_cons] at hl
                  cases e:f a with
                  | none =>
                    rw[e] at hl
                    dsimp only at hl
                    rw[List.length_cons] at hl
                    omega
                  | some b =>
                    rw[e] at hl
                    simp only[List.length_cons,Nat.add_right_cancel_iff] at hl
                    rcases List.mem_cons.mp ht with rfl | ht
                    · exact hf _ List.mem_cons_self (by rw[e];rfl)
                    · exact ih (fun t ht=>hf t (List.mem_cons_of_mem _ ht)) hl t ht
              have:=this ts _ (fun t q_ hs=>by cases t <;> first | rfl | cases hs) hl t ht
              rw[this] at hnm
              cases hnm
            · rw[if_pos h]
    | _=>rfl
  | List=>exact bad h
  | _=>rfl
noncomputable def onFn (w:List Nat)(sc:Scope)(k:List Expr→Bool):Expr→Bool:=onCall fun g xs ks q_=>on0 ks&&onName (fun n q_=>isS w n&&jH sc n .globalImplicit) g&&k xs
theorem onFn_i {w:List Nat}{sc:Scope}{k:List Expr→Bool}{x:Expr}(h:onFn w sc k x=true):∃ n np xs p,x = .Call (.Name n np) xs [] p∧isS w n=true∧jH sc n .globalImplicit=true∧k xs=true:=by
  obtain⟨g,xs,ks,p,rfl,h⟩:=onCall_i (f:=_) h
  have h:=jQ h
  have h2:=h.2
  have h:=jQ h.1
  have e:=on0_i h.1
  subst e
  refine onName_e h.2 fun n np hh=>?_
  have h:=jQ hh
  exact⟨n,np,xs,p,rfl,h.1,h.2,h2⟩
noncomputable def m1 (T:Tabs)(sc:Scope)(ns:List (List Nat))(a:XE):List Expr→Bool:=on1 fun x=>a.mt T sc ns x && !isStar x
noncomputable def m2 (T:Tabs)(sc:Scope)(ns:List (List Nat))(a b:XE):List Expr→Bool:=on2 fun x y=>a.mt T sc ns x&&b.mt T sc ns y && !isStar x && !isStar y
theorem m2_i {a b:XE}{xs:List Expr}(h:m2 T sc ns a b xs=true):∃ x y,xs=[x,y]∧a.mt T sc ns x=true∧b.mt T sc ns y=true∧isStar x=false∧isStar y=false:=by
  refine on2_e h fun x y h=>?_
  have h6:=jQ h
  have h5:=jQ h6.1
  have h4:=jQ h5.1
  exact⟨x,y,rfl,h4.1,h4.2,not_i h5.2,not_i h6.2⟩
noncomputable def i_of (e:XE):XI:=⟨fun G call F=>zZ (e.ev G call F) fun v=>jW (aiterOf v),false,e.mt,fun y T sc ns x h env F=>evI_of (tg:=fun q_=>True) (e.ok y h env F).1 (fun q_ q_=>trivial) rfl⟩
noncomputable def i_range1 (a:XE):XI:=⟨fun G call F=>zZ (a.ev G call F) fun v=>zZ (jW (wY v)) fun i=>zZ (jW (aif (small i=true) ())) fun q_=>zH (ZC 0 i),false,
  fun T sc ns=>onFn [114,97,110,103,101] sc (m1 T sc ns a),fun y T sc ns x h env F=>by
    obtain⟨n,np,xs,p,rfl,h1,h2,h⟩:=onFn_i h
    refine on1_e h fun z h=>?_
    have h:=jQ h
    exact evI_range1 y.O y.Sr h1 h2 (not_i h.2) (a.ok y h.1 env F).1⟩
noncomputable def i_range2 (a b:XE):XI:=⟨fun G call F=>zZ (a.ev G call F) fun v=>zZ (b.ev G call F) fun w=>zZ (jW (wY v)) fun i=>zZ (jW (wY w)) fun j=>zZ (jW (aif ((small i&&small j)=true) ())) fun q_=>zH (ZC i j),false,
  fun T sc ns=>onFn [114,97,110,103,101] sc (m2 T sc ns a b),fun y T sc ns x h env F=>by
    obtain⟨n,np,xs,p,rfl,h1,h2,h⟩:=onFn_i h
    obtain⟨u,z,rfl,h3,h4,h5,h6⟩:=m2_i h
    exact evI_range2 y.O y.Sr h1 h2 h5 h6 (a.ok y h3 env F).1 (b.ok y h4 env F).1⟩
noncomputable def i_zip (a b:XE):XI:=⟨fun G call F=>zZ (a.ev G call F) fun v=>zZ (b.ev G call F) fun w=>zZ (jW (toStr v)) fun s=>zZ (jW (toStr w)) fun t=>zH (zipOf (s.map fun c => .str [c]) (t.map fun c => .str [c])),true,
  fun T sc ns=>onFn [122,105,112] sc (m2 T sc ns a b),fun y T sc ns x h env F=>by
    obtain⟨n,np,xs,p,rfl,h1,h2,h⟩:=onFn_i h
    obtain⟨u,z,rfl,h3,h4,h5,h6⟩:=m2_i h
    exact evI_zip y.O y.Sr h1 h2 h5 h6 (a.ok y h3 env F).1 (b.ok y h4 env F).1⟩
noncomputable def i_enum (a:XE):XI:=⟨fun G call F=>zZ (a.ev G call F) fun v=>zZ (jW (toLst v)) fun xs=>zH (enumOf xs),true,
  fun T sc ns=>onFn [101,110,117,109,101,114,97,116,101] sc (m1 T sc ns a),fun y T sc ns x h env F=>by
    obtain⟨n,np,xs,p,rfl,h1,h2,h⟩:=onFn_i h
    refine on1_e h fun z h=>?_
    have h:=jQ h
    exact evI_enum y.O y.Sr h1 h2 (not_i h.2) (a.ok y h.1 env F).1⟩
noncomputable def zC (i:Nat)(c:Bool):XT:=⟨fun q_ q_ v F=>zZ (jW (aif ((i<F.length&&(!c||(nth F i).isNone))=true) ())) fun q_=>zH (setN F i (some v)),
  fun T sc ns=>onName fun x q_=>isNm ns i x&&jH sc x (if c then .cell else .local),fun y T sc ns x h env=>by
    obtain⟨id,p,rfl,h⟩:=onName_i (f:=_) h
    have h:=jQ h
    obtain⟨n,hn,hx⟩:=isNm_i h.1
    intro F;simp only[nth_eq,setN_eq];exact as_var hn hx h.2 F⟩
noncomputable def sts (G:Glo)(call:Orc)(ts:List XT):List AV→AF→AM AF:=@List.rec XT (fun q_=>List AV→AF→AM AF) (fun xs F=>zZ (jW (aif (xs=[]) ())) fun q_=>zH F) (fun t q_ ih xs F=>zZ (jW xs.head?) fun x=>zZ (t.st G call x F) fun F'=>ih xs.tail F') ts
noncomputable def mTs (T:Tabs)(sc:Scope)(ns:List (List Nat)):List XT→List Expr→Bool
  | []=>on0
  | t::r=>onC fun x xs => !isStar x&&t.mt T sc ns x&&mTs T sc ns r xs
theorem sts_ok {A:Around}{call':Orc}(y:Hyp B A call')(env:Env):∀ {ts:List XT}{xs:List Expr},mTs T sc ns ts xs=true→(xs.all fun t => !isStar t)=true∧AsTs B A T sc ns env xs (sts B.Gl call' ts)
  | [],xs,h=>by
    have h:=on0_i (show on0 xs=true from h)
    subst h
    exact⟨rfl,asts_nil⟩
  | t::r,xs,h=>by
    refine onC_e (f:=_) h fun x xs h=>?_
    have h:=jQ h
    have g:=jQ h.1
    have st:=not_i g.1
    obtain⟨a,b⟩:=sts_ok y env h.2
    exact⟨by rw[List.all_cons,st,a];rfl,asts_cons st (t.ok y g.2 env) b⟩
noncomputable def t_tup (ts:List XT):XT:=⟨fun G call v F=>zZ (jW (toTup v)) fun xs=>sts G call ts xs F,fun T sc ns=>onTuple fun xs q_ q_=>mTs T sc ns ts xs&&decide (xs.length≤20),fun y T sc ns x h env=>by
    obtain⟨xs,k,p,rfl,h⟩:=onTuple_i (f:=_) h
    obtain⟨a,b⟩:=sts_ok y env (jQ h).1
    exact as_tup y.hA a b⟩
noncomputable def t_attr (o:XE)(f:Fld):XT:=⟨fun G call v F=>zZ (o.ev G call F) fun x=>zZ (asetA x f v) fun q_=>zH F,fun T sc ns=>onAttribute fun v n q_=>decide (n=f.name)&&o.mt T sc ns v,fun y T sc ns x h env=>by
    obtain⟨v,n,p,rfl,h⟩:=onAttribute_i (f:=_) h
    have h:=jQ h
    have h1:=of_decide_eq_true h.1
    subst h1
    exact as_attr y.K fun F=>(o.ok y h.2 env F).1⟩
noncomputable def t_sub (o i:XE):XT:=⟨fun G call v F=>zZ (o.ev G call F) fun x=>zZ (i.ev G call F) fun k=>zZ (asetI x k v) fun q_=>zH F,fun T sc ns=>onSubscript fun v s q_=>o.mt T sc ns v&&i.mt T sc ns s && !isSlice s,fun y T sc ns x h env=>by
    obtain⟨v,s,p,rfl,h⟩:=onSubscript_i (f:=_) h
    have h:=jQ h
    have g:=jQ h.1
    exact as_sub (fun F=>(o.ok y g.1 env F).1) (fun F=>(i.ok y g.2 env F).1) (not_i h.2)⟩
end
noncomputable def exs (G:Glo)(call:Orc)(W:Nat)(ss:List XS):AF→AM (Flo×AF):=@List.rec XS (fun q_=>AF→AM (Flo×AF)) (fun F=>zH (.next,F)) (fun s q_ ih F=>zZ (s.ex G call W F) fun p=>ZU ih p) ss
noncomputable def mSs (T:Tabs)(sc:Scope)(ns:List (List Nat)):List XS→List Stmt→Bool
  | []=>on0
  | s::r=>onC fun x xs=>s.mt T sc ns x&&mSs T sc ns r xs
theorem exs_ok {B:Base}{A:Around}{call':Orc}{T:Tabs}{sc:Scope}{ns:List (List Nat)}(y:Hyp B A call')(W:Nat){env:Env}(hk:env.scope.kind = .function):∀ {ss:List XS}{xs:List Stmt},mSs T sc ns ss xs=true→ExS B A T sc ns env (execs xs env) (exs B.Gl call' W ss)
  | [],xs,h=>by
    have h:=on0_i (show on0 xs=true from h)
    subst h
    exact exs_nil
  | s::r,xs,h=>by
    refine onC_e (f:=_) h fun x xs h=>?_
    have h:=jQ h
    exact exs_cons (s.ok y W h.1 env hk) (exs_ok y W hk h.2)
noncomputable def ZX (e:XE):XS:=⟨fun G call q_ F=>zZ (e.ev G call F) fun v=>zZ (jW (aif ((v.isNone||(wY v).isSome)=true) ())) fun q_=>zH (.next,F),fun T sc ns=>stExpr fun x q_=>e.mt T sc ns x&&notComp x,fun y W T sc ns x h env hk=>by
  obtain⟨z,p,rfl,h⟩:=stExpr_i (f:=_) h
  have h:=jQ h
  exact ex_expr h.2 (fun F=>(e.ok y h.1 env F).1)⟩
noncomputable def jX (e:XE):XS:=⟨fun G call q_ F=>zZ (e.ev G call F) fun v=>zH (.ret v,F),fun T sc ns=>stReturn fun x q_=>onS (e.mt T sc ns) x,fun y W T sc ns x h env hk=>by
  obtain⟨o,p,rfl,h⟩:=stReturn_i (f:=_) h
  refine onS_e h fun z h=>?_
  exact ex_ret fun F=>(e.ok y h env F).1⟩
noncomputable def s_retN:XS:=⟨fun q_ q_ q_ F=>zH (.ret .none,F),fun q_ q_ q_=>stReturn fun x q_=>onN x,fun y W T sc ns x h env hk=>by
  obtain⟨o,p,rfl,h⟩:=stReturn_i (f:=_) h
  have h:=onN_i h
  subst h
  exact ex_retN⟩
noncomputable def zU (t:XT)(e:XE):XS:=⟨fun G call q_ F=>zZ (e.ev G call F) fun v=>zZ (t.st G call v F) fun F'=>zH (.next,F'),fun T sc ns=>stAssign fun ts x q_=>on1 (fun tg=>t.mt T sc ns tg&&e.mt T sc ns x&&notComp x && !isStar tg&&inOrder tg x&&starless x) ts,fun y W T sc ns x h env hk=>by
  obtain⟨ts,x,p,rfl,h⟩:=stAssign_i (f:=_) h
  refine on1_e h fun tg h=>?_
  have h:=jQ h
  have h6:=h.2
  have h:=jQ h.1
  have h5:=h.2
  have h:=jQ h.1
  have h4:=not_i h.2
  have h:=jQ h.1
  have h3:=h.2
  have h:=jQ h.1
  exact ex_assign h3 h4 (ordered h5 hk h6) (fun F=>(e.ok y h.2 env F).1) (t.ok y h.1 env)⟩
noncomputable def plus (o:Op2):Bool:=(o != .mul)&&(o != .mod)&&(o != .fdiv)
theorem plus_i {o:Op2}(h:plus o=true):o ≠ .mul∧o ≠ .mod∧o ≠ .fdiv:=by
  have h:=jQ h
  have g:=jQ h.1
  exact⟨bne_iff_ne.mp g.1,bne_iff_ne.mp g.2,bne_iff_ne.mp h.2⟩
noncomputable def s_aug (i:Nat)(o:Op2)(e:XE):XS:=⟨fun G call q_ F=>zZ (jW (nth F i)) fun x=>zZ (e.ev G call F) fun y=>zZ (jW (abin o x y)) fun z=>zZ (jW (wY z)) fun k=>zH (.next,setN F i (some (.int k))),
  fun T sc ns=>stAugAssign fun t p v q_=>onName (fun x q_=>isNm ns i x&&jH sc x .local) t&&op2 o p&&e.mt T sc ns v&&plus o,fun y W T sc ns x h env hk=>by
  obtain⟨t,q,v,p,rfl,h⟩:=stAugAssign_i (f:=_) h
  have h:=jQ h
  obtain⟨h5,h6,h7⟩:=plus_i h.2
  have h:=jQ h.1
  have h4:=h.2
  have h:=jQ h.1
  have e3:=op2_eq h.2
  subst e3
  refine onName_e h.1 fun z p' hh=>?_
  have h:=jQ hh
  obtain⟨n,hn,hx⟩:=isNm_i h.1
  intro F;simp only[nth_eq,setN_eq];exact ex_aug hn hx h.2 h5 h6 h7 (fun F=>(e.ok y h4 env F).1) F⟩
noncomputable def s_augA (a:XE)(f:Fld)(o:Op2)(e:XE):XS:=⟨fun G call q_ F=>zZ (a.ev G call F) fun x=>zZ (agetA x f) fun v=>zZ (e.ev G call F) fun y=>zZ (jW (abin o v y)) fun z=>zZ (jW (wY z)) fun k=>zZ (asetA x f (.int k)) fun q_=>zH (.next,F),
  fun T sc ns=>stAugAssign fun t p x q_=>onAttribute (fun v n q_=>decide (n=f.name)&&a.mt T sc ns v) t&&op2 o p&&e.mt T sc ns x&&plus o,fun y W T sc ns x h env hk=>by
  obtain⟨t,q,v,p,rfl,h⟩:=stAugAssign_i (f:=_) h
  have h:=jQ h
  obtain⟨h5,h6,h7⟩:=plus_i h.2
  have h:=jQ h.1
  have h4:=h.2
  have h:=jQ h.1
  have e3:=op2_eq h.2
  subst e3
  refine onAttribute_e h.1 fun z n p' hh=>?_
  have h:=jQ hh
  have h1:=of_decide_eq_true h.1
  subst h1
  exact ex_augA y.K h5 h6 h7 (fun F=>(a.ok y h.2 env F).1) (fun F=>(e.ok y h4 env F).1)⟩
noncomputable def wB (c:XE)(a b:List XS):XS:=⟨fun G call W F=>zZ (c.ev G call F) fun v=>zZ (jW (wH v)) fun t=>if t then exs G call W a F else exs G call W b F,fun T sc ns=>stIf fun t x y q_=>c.mt T sc ns t&&mSs T sc ns a x&&mSs T sc ns b y,fun y W T sc ns x h env hk=>by
  obtain⟨t,u,v,p,rfl,h⟩:=stIf_i (f:=_) h
  have h:=jQ h
  have g:=jQ h.1
  exact ex_cond (fun F=>(c.ok y g.1 env F).2) (exs_ok y W hk g.2) (exs_ok y W hk h.2)⟩
noncomputable def s_while (c:XE)(a:List XS):XS:=⟨fun G call W F=>awhile (fun F=>zZ (c.ev G call F) fun v=>jW (wH v)) (fun F=>exs G call W a F) W F,fun T sc ns=>stWhile fun t x e q_=>on0 e&&c.mt T sc ns t&&mSs T sc ns a x,fun y W T sc ns x h env hk=>by
  obtain⟨t,u,v,p,rfl,h⟩:=stWhile_i (f:=_) h
  have h:=jQ h
  have g:=jQ h.1
  have e:=on0_i g.1
  subst e
  exact ex_while (fun F=>(c.ok y g.2 env F).2) (exs_ok y W hk h.2)⟩
noncomputable def s_for (t:XT)(src:XI)(a:List XS):XS:=⟨fun G call W F=>zZ (src.sr G call F) fun xs=>afor (fun x F=>zZ (t.st G call x F) fun F'=>exs G call W a F') xs F,
  fun T sc ns=>stFor fun tg it x e q_=>on0 e&&t.mt T sc ns tg&&src.mt T sc ns it&&mSs T sc ns a x&&noFold it&&(!src.pr||onTuple (fun q_ q_ q_=>true) tg),fun y W T sc ns x h env hk=>by
  obtain⟨tg,it,u,v,p,rfl,h⟩:=stFor_i (f:=_) h
  refine and6 (fun h1 h2 h3 h4 h5 h6=>?_) h
  cases on0_i h1
  exact ex_for y.hA h5 (tg_i h6) (fun F=>src.ok y h3 env F) (t.ok y h2 env) (exs_ok y W hk h4)⟩
noncomputable def s_forL (t:XT)(e:XE)(a:List XS):XS:=⟨fun G call W F=>zZ (e.ev G call F) fun v=>zZ (jW (toObj v)) fun n=>aforL n (fun x F=>zZ (t.st G call x F) fun F'=>exs G call W a F') W 0 F,
  fun T sc ns=>stFor fun tg it x o q_=>on0 o&&t.mt T sc ns tg&&e.mt T sc ns it&&mSs T sc ns a x&&noFold it,fun y W T sc ns x h env hk=>by
  obtain⟨tg,it,u,v,p,rfl,h⟩:=stFor_i (f:=_) h
  refine and5 (fun h1 h2 h3 h4 h5=>?_) h
  cases on0_i h1
  exact ex_forL (W:=W) y.hA h5 (fun F=>(e.ok y h3 env F).1) (t.ok y h2 env) (exs_ok y W hk h4)⟩
noncomputable def s_acomp (i:Nat)(names:List (List Nat))(elt:XE)(t:XT)(src:XI)(ifs:List XE)(caps:List (Nat×Nat)):XS:=⟨fun G call q_ F=>zZ (evComp G call F names elt t src ifs caps) fun v=>zZ (jW (aif (i<F.length) ())) fun q_=>zH (.next,F.set i (some v)),
  fun T sc ns=>stAssign fun ts v q_=>on1 (onName fun x q_=>isNm ns i x&&jH sc x .local) ts&&mComp T sc ns names elt t src ifs caps v,fun y W T sc ns x h env hk=>by
  obtain⟨ts,x,p,rfl,h⟩:=stAssign_i (f:=_) h
  have h:=jQ h
  refine on1_e h.1 fun tg h1=>?_
  refine onName_e h1 fun z yp h1=>?_
  have h1:=jQ h1
  refine via fun R_ k_=>?_
  obtain⟨n,hn,hx⟩:=isNm_i h1.1
  obtain⟨e,tg,it,cs,sc',p',rfl,g1,g2,g3,g4,g5,g6,g7⟩:=comp_i h.2
  refine k_ ?_
  exact ex_acomp y.hA hn hx h1.2 (closOk_iff g1) g7 g2 (mi:=fun F=>src.sr _ _ F) (fun F=>src.ok y g3 env F) (fun C'=>t.ok y g4 _) (fun C' F'=>(pairE y _ F' g6).evTs) (fun C' F'=>(elt.ok y g5 _ F').1)⟩
noncomputable def s_swap (is:List Nat)(es:List XE):XS:=⟨fun G call q_ F=>zZ (evs G call F es) fun xs=>zZ (jW (aif (xs.length=is.length∧is.all (fun i=>decide (i<F.length))=true) ())) fun q_=>zH (.next,asets is xs F),
  fun T sc ns=>stAssign fun ts v q_=>on1 (onTuple fun ts q_ q_=>onTuple (fun vs q_ q_=>mNs sc ns is ts&&mEs T sc ns es vs&&(ts.length==2||ts.length==3)&&decide (ts.length=vs.length)&&decide is.Nodup &&
      ts.all (fun t=>t.pos.line==(ts.head?.map (·.pos.line)).getD 0) && !vs.all (foldedForSure 8) && !vs.all (constantsAlone 8)) v) ts,fun y W T sc ns x h env hk=>by
  obtain⟨ts,v,p,rfl,h⟩:=stAssign_i (f:=_) h
  refine on1_e h fun tg h=>?_
  refine onTuple_e h fun ts k1 p1 h=>?_
  refine onTuple_e h fun vs k2 p2 h=>?_
  refine and8 (fun h1 h2 h3 h4 h5 h6 h7 h8=>?_) h
  have h4:=of_decide_eq_true h4
  have pr:=fun F=>pairE y env F h2
  refine ex_swap y.hA h1 (of_decide_eq_true h5) h3 h4.symm (pr []).noStar (fun t ht=>(List.all_eq_true.mp h6) t ht) (not_i h7) (not_i h8) (fun F=>(pr F).evL) (fun F H xs H' e=>?_)
  rw[(pr F).len _ _ _ e,←h4]
  rcases(Bool.or_eq_true _ _).mp h3 with q | q <;> (rw[eq_of_beq q];decide)⟩
noncomputable def s_raise (e:XE):XS:=⟨fun q_ q_ q_ q_=>afail,fun T sc ns=>stRaise fun x c q_=>onN c&&onS (e.mt T sc ns) x,fun y W T sc ns x h env hk F s G H fl F' H' P I eq=>nos eq⟩
inductive DefnT (T:Tabs)(sc:Scope)(ns:List (List Nat))(i k:Nat)(names:List (List Nat))(caps:List (Nat×Nat)):Stmt→Prop
  | mk {name:Str} {args:Arguments} {body:List Stmt} {sc':Scope} {p:Pos} {n w:List Nat} (hn:ns[i]? = some n) (hx:isS n name=true) (hk:jH sc name .local=true) (h0:T.lamS k names args body sc'=true) (h4:closOk sc sc' ns names caps=true) (h5:T.sfx=some w) (hw:isS w name=true):DefnT T sc ns i k names caps (.FunctionDef name args body [] none [] sc' none name p)
theorem defn_tree {T:Tabs}{sc:Scope}{ns:List (List Nat)}{i k:Nat}{names:List (List Nat)}{caps:List (Nat×Nat)}{x:Stmt}(h:stFunctionDef (fun name args body ds rs tps sc' ts bind q_=>on0 ds&&onN rs&&on0 tps&&onN ts&&(isNm ns i bind&&isNm ns i name)&&jH sc bind .local&&T.lamS k names args body sc'&&closOk sc sc' ns names caps&&onS (fun w=>isS w name) T.sfx) x=true):DefnT T sc ns i k names caps x:=by
  obtain⟨name,args,body,ds,rs,tps,sc',ts,bind,p,rfl,h⟩:=stFunctionDef_i h
  refine and9 (fun h1 h2 h3 h4 h5 h6 h7 h8 h9=>?_) h
  have g:=jQ h5
  cases on0_i h1
  cases onN_i h2
  cases on0_i h3
  cases onN_i h4
  refine via fun R_ k_=>?_
  obtain⟨n,hn,hx⟩:=isNm_i g.1
  obtain⟨n',hn',hx'⟩:=isNm_i g.2
  refine k_ ?_
  rw[hn] at hn'
  cases hn'
  cases (isS_eq hx).trans (isS_eq hx').symm
  obtain⟨w,hw,h9⟩:=onS_i h9
  exact .mk hn hx h6 h7 h8 hw h9
noncomputable def s_defn (i k:Nat)(names:List (List Nat))(caps:List (Nat×Nat)):XS:=⟨fun G call q_ F=>zZ (jW (capsOf F caps)) fun l=>zH (.next,setN F i (some (.clo k l))),
  fun T sc ns=>stFunctionDef fun name args body ds rs tps sc' ts bind q_=>on0 ds&&onN rs&&on0 tps&&onN ts&&(isNm ns i bind&&isNm ns i name)&&jH sc bind .local&&T.lamS k names args body sc'&&closOk sc sc' ns names caps&&onS (fun w=>isS w name) T.sfx,fun y W T sc ns x h env hk=>by
  cases defn_tree h with
  | mk hn hx h6 h7 h8 hw h9 =>
    intro F
    simp only[setN_eq]
    exact ex_defn y.O y.CO y.LO hn hx h6 h7 h8 hw h9 F⟩
end
section
open PySem PySem.W PyProof.Rows PySem.Calls
structure IFn where
  names:List (List Nat)
  np:Nat
  body:List XS
inductive CBd where
  | expr (e:XE)
  | stmts (ss:List XS)
structure CFn where
  names:List (List Nat)
  np:Nat
  body:CBd
section
variable (G:Glo)(fns:Nat→Option IFn)(cls:Nat→Option CFn)(W:Nat)
noncomputable def arun (call:Orc)(f:IFn)(args:List AV):AM AV:=zZ (jW (frameOf f.names.length f.np args [])) fun F=>zZ (exs G call W f.body F) fun p=>zH p.1.val
noncomputable def bdrun (call:Orc)(b:CBd)(F:AF):AM AV:=@CBd.rec (fun q_=>AM AV) (fun e=>e.ev G call F) (fun ss=>zZ (exs G call W ss F) fun p=>zH p.1.val) b
noncomputable def crun (call:Orc)(f:CFn)(args:List AV)(caps:List (Nat×AV)):AM AV:=zZ (jW (frameOf f.names.length f.np args caps)) fun F=>bdrun G W call f.body F
noncomputable def acall:Nat→AV→List AV→AM AV
  | 0,_,_=>afail
  | n+1,f,args=>match f with
    | .fn k=>zZ (jW (fns k)) fun ir=>arun G W (acall n) ir args
    | .clo k caps=>zZ (jW (cls k)) fun c=>crun G W (acall n) c args caps
    | .cls c=>zZ (jW (G.ini c)) fun k=>zZ (anewI c) fun o=>zZ (acall n (.fn k) (o::iniArgs c args)) fun z=>zZ (jW (aif (z.isNone=true) ())) fun q_=>zH o
    | _=>afail
end
theorem acall_fn {G:Glo}{fns:Nat→Option IFn}{cls:Nat→Option CFn}{W n:Nat}{k:Nat}{xs:List AV}:acall G fns cls W (n+1) (.fn k) xs=zZ (jW (fns k)) fun ir=>arun G W (acall G fns cls W n) ir xs:=rfl
theorem acall_clo {G:Glo}{fns:Nat→Option IFn}{cls:Nat→Option CFn}{W n:Nat}{k:Nat}{l:List (Nat×AV)}{xs:List AV}:acall G fns cls W (n+1) (.clo k l) xs=zZ (jW (cls k)) fun c=>crun G W (acall G fns cls W n) c xs l:=rfl
theorem acall_cls {G:Glo}{fns:Nat→Option IFn}{cls:Nat→Option CFn}{W n:Nat}{c:Cls}{xs:List AV}:acall G fns cls W (n+1) (.cls c) xs=zZ (jW (G.ini c)) fun k=>zZ (anewI c) fun o=>zZ (acall G fns cls W n (.fn k) (o::iniArgs c xs)) fun z=>zZ (jW (aif (z.isNone=true) ())) fun q_=>zH o:=rfl
noncomputable def FnOK (B:Base)(k:Nat)(f:IFn):Prop:=∃ fd T body,FnCore B (B.fnA k) fd T f.names f.np∧fd.body = .stmts body∧mSs T fd.scope f.names f.body body=true ∧
  ∀ (s:Shared) (G:St) (H:AH) (vs:List Value),Inv B G H s.heap→vs.length=f.np→BindsTo s fd ⟨vs,[]⟩ (((f.names.take f.np).map toS).zip vs)
structure ClsOk (B:Base)(cls:Nat→Option CFn):Prop where
  all:∀ k c,cls k=some c→B.cloN k=c.names∧B.cloA k=c.np∧∀ sc,(∀ x,B.cloE k x sc→∃ e,c.body = .expr e∧e.mt B.T.bare sc c.names x=true)∧∀ xs,B.cloS k xs sc→∃ ss,c.body = .stmts ss∧mSs B.T.bare sc c.names ss xs=true
structure FnsOk (B:Base)(fns:Nat→Option IFn):Prop where
  all:∀ k f,fns k=some f→FnOK B k f
  nofail:B.Gl.ini .fail=none
  lim:∀ k f,B.Gl.ini .limits=some k→fns k=some f→∀ (o:Obj) (fd:FuncData),B.h₀.get? (B.fnA k)=some o→o.data = .func fd→∃ t1 t2 t3 t4,∀ (s:Shared) (G:St) (H:AH) (x:Value),Inv B G H s.heap →
    BindsTo s fd ⟨[x],[]⟩ (((f.names.take f.np).map toS).zip [x,.int 40 t1,.int 200 t2,.int (10 ^ 9) t3,.int (10 ^ 6) t4])
theorem acall_cls_some {G:Glo}{fns:Nat→Option IFn}{cls:Nat→Option CFn}{W n:Nat}{c:Cls}{xs:List AV}{H H':AH}{z:AV}(e:acall G fns cls W (n+1) (.cls c) xs H=some (z,H')) :
    ∃ k,G.ini c=some k∧z = .obj H.length∧acall G fns cls W n (.fn k) (.obj H.length::iniArgs c xs) (H++[.inst c fun q_=>none])=some (.none,H'):=by
  rw[acall_cls] at e
  refine via fun R_ k_=>?_
  obtain⟨k,hk,e1⟩:=jB e
  obtain⟨o,H1,e2,e3⟩:=zJ e1
  refine k_ ?_
  clear e e1
  cases (show anewI c H=some (o,H1) from e2)
  obtain⟨v,H2,e4,e5⟩:=zJ e3
  obtain⟨hz,e6⟩:=ZZ e5
  obtain⟨rfl,rfl⟩:=zF e6
  have hz:=isNone_eq hz
  subst hz
  exact⟨k,hk,rfl,e4⟩
section
variable {B:Base}{fns:Nat→Option IFn}(O:BaseOk B)(K:ClassesOk B)(Sr:SrcOk B)(FO:FnsOk B fns)(CO:CodeOk B)(LO:LamOk B){cls:Nat→Option CFn}(CF:ClsOk B cls)(W:Nat)
include O K Sr FO CO LO CF
omit O K Sr FO CO LO CF in
theorem room_d {a n l:Nat}(h:a+(n+1)<l):a+1+n<l:=Nat.lt_of_le_of_lt (Nat.le_of_eq (Nat.add_right_comm a 1 n)) h
omit O K Sr FO CO LO CF in
theorem room_u {a n k l:Nat}(hk:k≤8)(h:a+8 * (n+1)+8<l):a+k+8 * n+8<l:=Nat.lt_of_le_of_lt (Nat.add_le_add_right (by rw[Nat.add_right_comm];exact Nat.add_le_add_left hk (a+8 * n)) 8) h
omit O K Sr FO CO LO CF in
theorem Room.deeper {A:Around}{n:Nat}(r:Room A (n+1))(env:Env):Room (A.deeper env) n:=by
  obtain⟨a,b,c⟩:=r
  refine⟨?_,?_,c⟩
  · exact room_d a
  · exact room_u (Nat.le_of_ble_eq_true rfl) b
theorem fn_run {n:Nat}(IH:∀ A,Room A n→CallOK B A (acall B.Gl fns cls W n)){A:Around}(R:Room A (n+1)){k:Nat}{xs:List AV}{H H':AH}{z:AV}(e:acall B.Gl fns cls W (n+1) (.fn k) xs H=some (z,H')){s:Shared}{G:St}{vs:List Value}
    (I:Inv B G H s.heap) (rs:RepL B G xs vs) {ar:Args} (hb:∀ f,fns k=some f→∀ o fd,B.h₀.get? (B.fnA k)=some o→o.data = .func fd→vs.length=f.np→BindsTo s fd ar (((f.names.take f.np).map toS).zip vs)) :
    Yields B A (call (.ref (B.fnA k)) ar.pos ar.kw) G H H' z s:=by
  rw[acall_fn] at e
  refine via fun R_ k_=>?_
  obtain⟨f,e1,e2⟩:=jB e
  obtain⟨fd,T,body,C,hbody,hm,_⟩:=FO.all k f e1
  obtain⟨o,ho,hd⟩:=C.obj
  refine k_ ?_
  unfold arun at e2
  obtain⟨F,e3,e4⟩:=jB e2
  obtain⟨⟨fl,F'⟩,H3,e5,e6⟩:=zJ e4
  obtain⟨hz,rfl⟩:=zF e6
  have hlen:vs.length=f.np:=by rw[rs.len,(frame_some e3).1]
  refine call_top O C hbody e3 I rs (hb f e1 o fd ho hd hlen) (by have:=R.depth;omega) (fun env henv=>?_) e5 hz.symm
  have R':=R.deeper env
  have hk:env.scope.kind = .function:=by rw[henv];exact(scopeOk_iff C.sc).kind
  exact exs_ok ⟨O,K,Sr,CO,LO,IH _ R',R'.handled,by have:=R'.units;omega⟩ W hk hm
omit O K Sr FO CO LO CF in
theorem made_inv {c:Cls}{mN:Str→Option Value}(CA:ClassAt B c mN){G:St}{H:AH}{h:Heap}(I:Inv B G H h) :
    Inv B (G.add (h.objs.size+1,some h.objs.size)) (H++[.inst c fun q_=>none]) (made2 h (B.clA c))∧Step B Pure G h (G.add (h.objs.size+1,some h.objs.size)) (made2 h (B.clA c)):=by
  have k:∀ b o,h.get? b=some o→(made2 h (B.clA c)).get? b=some o:=fun b o e=>Heap.get?_push_of_some _ (Heap.get?_push_of_some _ e)
  have gd:(made2 h (B.clA c)).get? h.objs.size=some { cls := .type "dict",data := .dict #[] }:=Heap.get?_push_of_some _ (Heap.get?_push_at rfl rfl)
  have gx:(made2 h (B.clA c)).get? (h.objs.size+1)=some (insO (B.clA c) h.objs.size):=by
    have:=Heap.get?_push_size (h.push ({ cls := .type "dict",data := .dict #[] }:Obj)) (o:=insO (B.clA c) h.objs.size) rfl
    rw[Heap.size_push] at this
    exact this
  have I0:Inv B G H (made2 h (B.clA c)):=I.keeps fun b o q_ e=>k b o e
  have s0:Step B Pure G h G (made2 h (B.clA c)):=Step.priv k
  have mem:∀ a∈ZB [(h.objs.size+1,some h.objs.size)],a=h.objs.size+1∨a=h.objs.size:=fun a ha=>(List.mem_cons.mp ha).imp id List.mem_singleton.mp
  have ge:∀ a∈ZB [(h.objs.size+1,some h.objs.size)],h.objs.size≤a:=fun a ha=>by
    rcases mem a ha with e | e
    · rw[e];exact Nat.le_succ _
    · rw[e];exact Nat.le_refl _
  have st:=s0.addObj (p:=(h.objs.size+1,some h.objs.size)) fun a ha=>Heap.get?_none_of_le (ge a ha)
  refine⟨I0.addObj (p:=(h.objs.size+1,some h.objs.size)) (ao := .inst c fun q_=>none) (fun a ha=>?_) ?_ ?_,st⟩
  · have hg:=ge a ha
    refine⟨I.gNew hg,fun m=>absurd (I.lt m) (Nat.not_lt.mpr hg),fun m=>absurd (I.tabLt m) (Nat.not_lt.mpr hg),?_⟩
    rcases mem a ha with e | e
    · rw[e];exact⟨_,gx⟩
    · rw[e];exact⟨_,gd⟩
  · show [h.objs.size+1,h.objs.size].Nodup
    simp
  · exact⟨h.objs.size,fun q_=>none,rfl,gx,Heap.Ns1.of_empty ⟨_,#[],_,gd,rfl,fun e he=>absurd he (by simp),fun q_=>rfl⟩,fun f=>rfl,fun y hy=>absurd rfl hy⟩
omit O K Sr FO CO LO CF in
theorem Room.make {A:Around}{n:Nat}(r:Room A (n+1))(c:Addr)(vs:List Value)(kw:List (Str×Value)):Room (A.under (.builtin "type.__call__" ⟨.ref c::vs,kw⟩)) n:=by
  obtain⟨a,b,d⟩:=r
  refine⟨?_,?_,d⟩
  · exact room_d a
  · exact room_u (Nat.le_of_ble_eq_true rfl) b
theorem cls_run {n:Nat}(IH:∀ m,m<n+1→∀ A,Room A m→CallOK B A (acall B.Gl fns cls W m)){A:Around}(R:Room A (n+1)){c:Cls}{xs:List AV}{H H':AH}{z:AV}(e:acall B.Gl fns cls W (n+1) (.cls c) xs H=some (z,H')){s:Shared}{G:St}
    (I:Inv B G H s.heap) {vs:List Value} {pos:List Value} {kw:List (Str×Value)} (rs:RepL B G (iniArgs c xs) vs)
    (hb:∀ k f,B.Gl.ini c=some k→fns k=some f→∀ o fd,B.h₀.get? (B.fnA k)=some o→o.data = .func fd→∀ (s':Shared) (G':St) (H':AH) (x:Value),Inv B G' H' s'.heap→(x::vs).length=f.np →
      BindsTo s' fd ⟨x::pos,kw⟩ (((f.names.take f.np).map toS).zip (x::vs))):Callee s.heap (.ref (B.clA c))∧Yields B A (call (.ref (B.clA c)) pos kw) G H H' z s:=by
  obtain⟨k,hi,rfl,e2⟩:=acall_cls_some e
  have hc:c ≠ .fail:=fun q=>by
    subst q
    rw[FO.nofail] at hi;cases hi
  obtain⟨mN,CA⟩:=K c hc
  obtain⟨cr,hC,hN,hNt⟩:=CA.obj
  have hC':=I.sub _ _ (I.old _ _ hC CA.tab)
  refine⟨.cls hC',fun Q E hQ=>?_⟩
  cases n with
  | zero=>cases e2
  | succ n =>
    refine via fun R_ k_=>?_
    obtain⟨hin,o,ho,hot,hoc⟩:=CA.ini k hi
    obtain⟨hp,g,d,t,os⟩:=s
    obtain⟨I1,s1⟩:=made_inv CA I
    refine k_ ?_
    have hx:Rep B (G.add (hp.objs.size+1,some hp.objs.size)) (.obj H.length) (.ref (hp.objs.size+1)):=⟨(hp.objs.size+1,some hp.objs.size),by
      show(G.al++[_])[H.length]? = _
      rw[←I.len,List.getElem?_append_right (Nat.le_refl _),Nat.sub_self];rfl,rfl⟩
    refine call_cls_init objNew hC' (I.ns hNt hN) hin (I.sub _ _ (I.old _ _ ho hot)) hoc ?_
    have R1:=R.make (B.clA c) pos kw
    refine fn_run O K Sr FO CO LO CF W (fun A RA=>IH n (by omega) A RA) R1 e2 (s:=⟨made2 hp (B.clA c),g,d,t,os⟩) I1 (vs := .ref (hp.objs.size+1)::vs) ⟨_,_,rfl,hx,s1.repL rs⟩ (ar:=⟨.ref (hp.objs.size+1)::pos,kw⟩)
      (fun f hf o fd ho hd hl=>hb k f hi hf o fd ho hd _ _ _ _ I1 hl) _ _ fun v G' h' tk' s2 I2 r2=>⟨r2,?_⟩
    have st:=s1.trans s2
    exact hQ _ G' h' tk' st I2 (s2.rep hx)
omit O K Sr CO LO CF in
theorem fnObj {n:Nat}{k:Nat}{xs:List AV}{H H':AH}{z:AV}(e:acall B.Gl fns cls W (n+1) (.fn k) xs H=some (z,H')):∃ o fd,B.h₀.get? (B.fnA k)=some o∧B.fnA k ∉ B.tabP∧o.data = .func fd:=by
  rw[acall_fn] at e
  refine via fun R_ k_=>?_
  obtain⟨f,e1,e2⟩:=jB e
  obtain⟨fd,T,body,C,_⟩:=FO.all k f e1
  obtain⟨o,ho,hd⟩:=C.obj
  refine k_ ?_
  exact⟨o,fd,ho,C.tab,hd⟩
omit O K Sr FO CO LO CF in
theorem parts {n:Nat}{c:Cls}{xs:List AV}{H H':AH}{z:AV}(e:acall B.Gl fns cls W (n+1) (.cls c) xs H=some (z,H')):∃ k f,B.Gl.ini c=some k∧fns k=some f:=by
  obtain⟨k,hi,_,e2⟩:=acall_cls_some e
  cases n with
  | zero=>exact nos (α:=AV×AH) e2
  | succ n =>
    rw[acall_fn] at e2
    obtain⟨f,e3,_⟩:=jB e2
    exact⟨k,f,hi,e3⟩
theorem ok_fn {n:Nat}(IH:∀ m,m<n+1→∀ A,Room A m→CallOK B A (acall B.Gl fns cls W m)){A:Around}(R:Room A (n+1)){s:Shared}{G:St}{H H':AH}{k:Nat}{z:AV}{xs:List AV}{vs:List Value}(I:Inv B G H s.heap)(rs:RepL B G xs vs)
    (e:acall B.Gl fns cls W (n+1) (.fn k) xs H=some (z,H')):Callee s.heap (.ref (B.fnA k))∧Yields B A (call (.ref (B.fnA k)) vs) G H H' z s:=by
  refine via fun R_ k_=>?_
  obtain⟨o,fd,ho,ht,hd⟩:=fnObj FO W e
  refine k_ ?_
  refine⟨.func (I.sub _ _ (I.old _ _ ho ht)) hd,?_⟩
  exact fn_run O K Sr FO CO LO CF W (fun A RA=>IH n (Nat.lt_succ_self n) A RA) R e I rs (ar:=⟨vs,[]⟩) fun f hf o' fd' ho' hd' hl=>by
    refine via fun R_ k_=>?_
    obtain⟨fd2,T,body,C,_,_,hbind⟩:=FO.all k f hf
    obtain⟨o2,ho2,hd2⟩:=C.obj
    refine k_ ?_
    rw[ho'] at ho2;cases ho2
    rw[hd'] at hd2;cases hd2
    exact hbind s G H vs I hl
theorem ok_lim {n:Nat}(IH:∀ m,m<n+1→∀ A,Room A m→CallOK B A (acall B.Gl fns cls W m)){A:Around}(R:Room A (n+1)){s:Shared}{G:St}{H H':AH}{z:AV}(I:Inv B G H s.heap)
    (e:acall B.Gl fns cls W (n+1) (.cls .limits) [] H=some (z,H')):Callee s.heap (.ref (B.clA .limits))∧Yields B A (call (.ref (B.clA .limits)) []) G H H' z s:=by
  refine via fun R_ k_=>?_
  obtain⟨k,f,hi,hf⟩:=parts W e
  obtain⟨fd,T,body,C,_⟩:=FO.all k f hf
  obtain⟨o,ho,hd⟩:=C.obj
  obtain⟨t1,t2,t3,t4,hb⟩:=FO.lim k _ hi hf o fd ho hd
  refine k_ ?_
  refine cls_run O K Sr FO CO LO CF W IH R e I (vs:=[.int 40 t1,.int 200 t2,.int (10 ^ 9) t3,.int (10 ^ 6) t4]) (pos:=[]) ⟨_,_,rfl,⟨_,rfl⟩,_,_,rfl,⟨_,rfl⟩,_,_,rfl,⟨_,rfl⟩,_,_,rfl,⟨_,rfl⟩,rfl⟩ fun k' f' hik hf' o' fd' ho' hd' s' G' H'' x I' hlen=>?_
  rw[hi] at hik;cases hik
  rw[hf] at hf';cases hf'
  rw[ho] at ho';cases ho'
  rw[hd] at hd';cases hd'
  exact hb s' G' H'' x I'
theorem ok_cls {n:Nat}(IH:∀ m,m<n+1→∀ A,Room A m→CallOK B A (acall B.Gl fns cls W m)){A:Around}(R:Room A (n+1)){s:Shared}{G:St}{H H':AH}{c:Cls}{z:AV}{xs:List AV}{vs:List Value}(hi:iniArgs c xs=xs)(I:Inv B G H s.heap)(rs:RepL B G xs vs)
    (e:acall B.Gl fns cls W (n+1) (.cls c) xs H=some (z,H')):Callee s.heap (.ref (B.clA c))∧Yields B A (call (.ref (B.clA c)) vs) G H H' z s:=by
  refine cls_run O K Sr FO CO LO CF W IH R e I (vs:=vs) (by rw[hi];exact rs) fun k f hik hf o fd ho hd s' G' H'' x I' hlen=>?_
  refine via fun R_ k_=>?_
  obtain⟨fd2,T,body,C,_,_,hbind⟩:=FO.all k f hf
  obtain⟨o2,ho2,hd2⟩:=C.obj
  refine k_ ?_
  rw[ho] at ho2;cases ho2
  rw[hd] at hd2;cases hd2
  exact hbind s' G' H'' (x::vs) I' hlen
theorem ok_clo {n:Nat}(IH:∀ m,m<n+1→∀ A,Room A m→CallOK B A (acall B.Gl fns cls W m)){A:Around}(R:Room A (n+1)){s:Shared}{G:St}{H H':AH}{k:Nat}{l:List (Nat×AV)}{z:AV}{v:Value}{xs:List AV}{vs:List Value}(I:Inv B G H s.heap)
    (rf:Rep B G (.clo k l) v) (rs:RepL B G xs vs) (e:acall B.Gl fns cls W (n+1) (.clo k l) xs H=some (z,H')):Callee s.heap v∧Yields B A (call v vs) G H H' z s:=by
  rw[acall_clo] at e
  refine via fun R_ k_=>?_
  obtain⟨c,hc,e1⟩:=jB e
  obtain⟨h1,h2,h3⟩:=CF.all k c hc
  refine k_ ?_
  unfold crun at e1
  obtain⟨F,e3,e4⟩:=jB e1
  rw[←h1,←h2] at e3
  refine call_clo O e3 I rf rs (by have:=R.depth;omega) fun env fd henv Cl=>?_
  have R':=R.deeper env
  have C':=IH n (Nat.lt_succ_self n) _ R'
  have y:Hyp B (A.deeper env) (acall B.Gl fns cls W n):=⟨O,K,Sr,CO,LO,C',R'.handled,by have:=R'.units;omega⟩
  refine via fun R_ k_=>?_
  obtain⟨_,_,_,hs,_,_,_,_,_,hb⟩:=Cl
  refine k_ ?_
  have hk:env.scope.kind = .function:=by rw[henv];exact(scopeOk_iff hs).kind
  cases hf:fd.body with
  | expr x =>
    rw[hf] at hb
    obtain⟨ex,hex,hm⟩:=(h3 fd.scope).1 x hb
    rw[hex] at e4
    exact⟨fun F=>ex.ev B.Gl (acall B.Gl fns cls W n) F,fun F=>(ex.ok y (h1▸hm) env F).1,e4⟩
  | stmts xs =>
    rw[hf] at hb
    obtain⟨ss,hss,hm⟩:=(h3 fd.scope).2 xs hb
    rw[hss] at e4
    obtain⟨⟨fl,F'⟩,H3,e5,e6⟩:=zJ (show zZ (exs B.Gl (acall B.Gl fns cls W n) W ss F) (fun p=>zH p.1.val) H=_ from e4)
    obtain⟨hz,rfl⟩:=zF e6
    exact⟨_,exs_ok y W hk (h1▸hm),fl,F',e5,hz.symm⟩
theorem acall_ok:∀ n A,Room A n→CallOK B A (acall B.Gl fns cls W n):=fun n=>by
  induction n using Nat.strongRecOn with
  | _ n IH =>
    intro A R
    cases n with
    | zero=>exact⟨fun s G H H' f z xs v vs hf I rf rs e=>nos (α:=AV×AH) e,fun s G H H' k z xs I e=>nos (α:=AV×AH) e⟩
    | succ n =>
      refine⟨fun s G H H' f z xs v vs hf I rf rs e=>?_,fun s G H H' k z xs I e=>?_⟩
      · rcases hf with⟨k,rfl⟩ | ⟨c,rfl,hc⟩ | ⟨k,l,rfl⟩
        · rw[show v=_ from rf]
          exact ok_fn O K Sr FO CO LO CF W IH R I rs e
        · rw [show v=_ from rf]
          by_cases hl:c = .limits
          · subst hl
            have hx:xs=[]:=Classical.byContradiction fun q=>hc ⟨rfl,q⟩
            subst hx
            rw[show vs=[] from rs]
            exact ok_lim O K Sr FO CO LO CF W IH R I e
          · exact ok_cls O K Sr FO CO LO CF W IH R (by cases c <;> first | rfl | exact absurd rfl hl) I rs e
        · exact ok_clo O K Sr FO CO LO CF W IH R I rf rs e
      · refine via fun R_ k_=>?_
        obtain⟨o,fd,ho,ht,hd⟩:=fnObj FO W e
        refine k_ ?_
        exact⟨o,fd,I.sub _ _ (I.old _ _ ho ht),hd⟩
end
end
section
set_option backward.match.sparseCases false
open PySem PySem.W PyProof.Rows PySem.Calls
noncomputable def isTy (s:String):Value→Bool
  | .type t=>decide (t=s)
  | _=>false
theorem isTy_i {s:String}{v:Value}(h:isTy s v=true):v = .type s:=by
  cases v with
  | type t=>rw[show t=s from of_decide_eq_true h]
  | _=>exact bad h
noncomputable def seqOf (s:String):Obj→Option (Array Value×Nat)
  | ⟨c,d,.seq vs n,sl⟩=>if isTy s c&&d.isNone&&sl.toList.isEmpty then some (vs,n) else none
  | _=>none
set_option tactic.hygienic true in
theorem seqOf_i {s:String}{o:Obj}{vs:Array Value}{n:Nat}(h:seqOf s o=some (vs,n)):o={ cls := .type s,data := .seq vs n }:=by
  obtain⟨c,d,da,sl⟩:=o
  cases da with
  | seq ws m =>
    unfold seqOf at h
    dsimp only at h
    split at h
    · rename_i q
      cases h
      have q:=jQ q
      have q1:=jQ q.1
      have e1:=isTy_i q1.1
      have e2:=Option.isNone_iff_eq_none.mp q1.2
      have e3:=List.isEmpty_iff.mp q.2
      subst e1;subst e2
      obtain⟨l⟩:=sl
      cases (show l=[] from e3)
      rfl
    · cases h
  | _=>cases h
noncomputable def dctOf:Obj→Option (Array DictEntry×Nat)
  | ⟨c,d,.dict es n,sl⟩=>if isTy "dict" c&&d.isNone&&sl.toList.isEmpty then some (es,n) else none
  | _=>none
set_option tactic.hygienic true in
theorem dctOf_i {o:Obj}{es:Array DictEntry}{n:Nat}(h:dctOf o=some (es,n)):o=dctO es n:=by
  obtain⟨c,d,da,sl⟩:=o
  cases da with
  | dict ws m =>
    unfold dctOf at h
    dsimp only at h
    split at h
    · rename_i q
      cases h
      have q:=jQ q
      have q1:=jQ q.1
      have e1:=isTy_i q1.1
      have e2:=Option.isNone_iff_eq_none.mp q1.2
      have e3:=List.isEmpty_iff.mp q.2
      subst e1;subst e2
      obtain⟨l⟩:=sl
      cases (show l=[] from e3)
      rfl
    · cases h
  | _=>cases h
section
variable (K:Frag)(fnA:Nat→Addr)(clA:Cls→Addr)
noncomputable def refA:Value→Option Addr
  | .ref a=>some a
  | _=>none
noncomputable def isRef (a:Addr)(v:Value):Bool:=decide (refA v=some a)
theorem refA_i {v:Value}{a:Addr}(h:refA v=some a):v = .ref a:=by
  cases v <;> cases h
  rfl
noncomputable def repAll (f:AV→Value→Bool):List AV→List Value→Bool
  | [],vs=>on0 vs
  | x::xs,vs=>onC (fun v r=>f x v&&repAll f xs r) vs
noncomputable def isInt (i:Int):Value→Bool
  | .int j _=>decide (i=j)
  | _=>false
theorem isInt_i {i:Int}{v:Value}(h:isInt i v=true):∃ t,v = .int i t:=by
  cases v with
  | int j t=>rw[show i=j from of_decide_eq_true h];exact⟨t,rfl⟩
  | _=>exact bad h
noncomputable def repEs (f:AV→Value→Bool):List (Int×AV)→List DictEntry→Bool
  | [],vs=>on0 vs
  | p::xs,vs=>onC (fun e r=>isInt p.1 e.key&&decide (e.hash=hashInt p.1)&&f p.2 e.val&&repEs f xs r) vs
noncomputable def repB:Nat→AV→Value→Bool
  | 0,_,_=>false
  | n + 1,x,v=>match x with
    | .none=>match v with
      | .none=>true
      | _=>false
    | .int i=>isInt i v
    | .str cs=>match v with
      | .str s _=>isS cs s
      | _=>false
    | .tup xs=>match (refA v).bind fun a=>(K.lookup a).bind (seqOf "tuple") with
      | some p=>repAll (repB n) xs p.1.toList
      | none=>false
    | .lst xs=>match (refA v).bind fun a=>(K.lookup a).bind (seqOf "list") with
      | some p=>repAll (repB n) xs p.1.toList
      | none=>false
    | .dct kvs=>match (refA v).bind fun a=>if a==sysModules then none else(K.lookup a).bind dctOf with
      | some p=>repEs (repB n) kvs p.1.toList
      | none=>false
    | .fn k=>isRef (fnA k) v
    | .cls c=>isRef (clA c) v
    | _=>false
variable {K fnA clA}
theorem mt_i {α:Type}{o:Option α}{F:α→Bool}(h:o.elim false F=true):∃ p,o=some p∧F p=true:=by
  cases o with
  | none=>cases h
  | some p=>exact⟨p,rfl,h⟩
set_option smartUnfolding false in
theorem repB_i {B:Base}{G:St}(hg:∀ a o,K.lookup a=some o→G.g a=some o)(hf:B.fnA=fnA)(hc:B.clA=clA):∀ (n:Nat)(x:AV)(v:Value),repB K fnA clA n x v=true→Rep B G x v
  | 0,_,_,h=>bad h
  | n + 1,x,v,h=>by
    have all:∀ (xs:List AV) (vs:List Value),repAll (repB K fnA clA n) xs vs=true→RepL B G xs vs:=fun xs=>by
      induction xs with
      | nil=>intro vs h;exact on0_i h
      | cons x xs ih =>
        intro vs h
        refine onC_e (f:=_) h fun v r h=>?_
        have h:=jQ h
        exact⟨v,r,rfl,repB_i hg hf hc n x v h.1,ih _ h.2⟩
    have es:∀ (xs:List (Int×AV)) (vs:List DictEntry),repEs (repB K fnA clA n) xs vs=true→RepD B G xs vs:=fun xs=>by
      induction xs with
      | nil=>intro vs h;exact on0_i h
      | cons x xs ih =>
        intro vs h
        refine onC_e (f:=_) h fun v r h=>?_
        have h:=jQ h
        have g:=jQ h.1
        have k:=jQ g.1
        obtain⟨t,ht⟩:=isInt_i k.1
        exact⟨v,t,r,rfl,ht,of_decide_eq_true k.2,repB_i hg hf hc n _ _ g.2,ih _ h.2⟩
    cases x with
    | none =>
      cases v with
      | none=>exact rfl
      | _=>exact bad h
    | int i=>exact isInt_i h
    | str cs =>
      cases v with
      | str s t=>exact⟨t,by rw[isS_eq h]⟩
      | _=>exact bad h
    | tup xs =>
      obtain⟨p,hp,h⟩:=mt_i (o:=(refA v).bind fun a=>(K.lookup a).bind (seqOf "tuple")) (F:=fun p=>repAll (repB K fnA clA n) xs p.1.toList) h
      obtain⟨a,ha,hp⟩:=Option.bind_eq_some_iff.mp hp
      obtain⟨o,ho,hp⟩:=Option.bind_eq_some_iff.mp hp
      have e:=seqOf_i (vs:=p.1) (n:=p.2) hp
      subst e
      exact⟨a,p.1,p.2,refA_i ha,hg _ _ ho,all _ _ h⟩
    | lst xs =>
      obtain⟨p,hp,h⟩:=mt_i (o:=(refA v).bind fun a=>(K.lookup a).bind (seqOf "list")) (F:=fun p=>repAll (repB K fnA clA n) xs p.1.toList) h
      obtain⟨a,ha,hp⟩:=Option.bind_eq_some_iff.mp hp
      obtain⟨o,ho,hp⟩:=Option.bind_eq_some_iff.mp hp
      have e:=seqOf_i (vs:=p.1) (n:=p.2) hp
      subst e
      exact⟨a,p.1,p.2,refA_i ha,hg _ _ ho,all _ _ h⟩
    | dct kvs =>
      refine via fun R_ k_=>?_
      obtain⟨p,hp,h⟩:=mt_i (o:=(refA v).bind fun a=>if a==sysModules then none else(K.lookup a).bind dctOf) (F:=fun p=>repEs (repB K fnA clA n) kvs p.1.toList) h
      obtain⟨a,ha,hp⟩:=Option.bind_eq_some_iff.mp hp
      refine k_ ?_
      cases q:(a==sysModules) with
      | true=>rw[q] at hp;cases hp
      | false =>
        rw[q] at hp
        obtain⟨o,ho,hp⟩:=Option.bind_eq_some_iff.mp hp
        have e:=dctOf_i (es:=p.1) (n:=p.2) hp
        subst e
        exact⟨a,p.1,p.2,refA_i ha,hg _ _ ho,q,es _ _ h⟩
    | fn k =>
      have:=refA_i (of_decide_eq_true h)
      show v=_
      rw[hf];exact this
    | cls c =>
      have:=refA_i (of_decide_eq_true h)
      show v=_
      rw[hc];exact this
    | _=>exact bad h
end
end
section
set_option backward.match.sparseCases false
open PySem PySem.W PyProof.Rows PySem.Calls
noncomputable def isStrV:Value→Bool
  | .str _ _=>true
  | _=>false
noncomputable def dictAt (K:Frag)(a:Addr):Option (Array DictEntry):=(K.lookup a).bind fun o=>match o.data with
  | .dict es _=>some es
  | _=>none
noncomputable def nsK (K:Frag)(a:Addr)(x:Str):Option Value:=(dictAt K a).bind fun es=>nsFind es x
noncomputable def nsB (K:Frag)(a:Addr):Bool:=onS (fun es:Array DictEntry=>es.toList.all fun e=>isStrV e.key) (dictAt K a)
theorem nsB_i {K:Frag}{h:Heap}(X:K.In h){a:Addr}(e:nsB K a=true):h.Ns a (nsK K a):=by
  refine via fun R_ k_=>?_
  obtain⟨es,q,e⟩:=onS_i e
  obtain⟨o,ho,hd⟩:=Option.bind_eq_some_iff.mp q
  have hd:∃ n,o.data = .dict es n:=by
    cases r:o.data with
    | dict es' n=>rw[r] at hd;cases hd;exact⟨n,rfl⟩
    | _=>rw[r] at hd;cases hd
  obtain⟨n,hd⟩:=hd
  refine k_ ?_
  refine⟨o,es,n,X _ _ ho,hd,fun e' he=>?_,fun x=>?_⟩
  · have:=List.all_eq_true.mp e e' (Array.mem_toList_iff.mpr he)
    cases r:e'.key with
    | str s t=>exact⟨s,t,rfl⟩
    | _=>rw[r] at this;exact bad this
  · unfold nsK
    rw[q];rfl
theorem offT {K:Frag}{B:Base}(NT:∀ b∈B.tabP,K.lookup b=none){a:Addr}{o:Obj}(e:K.lookup a=some o):a ∉ B.tabP:=fun m=>nomatch (NT a m).symm.trans e
theorem nsB_off {K:Frag}{B:Base}(NT:∀ b∈B.tabP,K.lookup b=none){a:Addr}(e:nsB K a=true):a ∉ B.tabP:=by
  refine via fun R_ k_=>?_
  obtain⟨es,q,e⟩:=onS_i e
  obtain⟨o,ho,hd⟩:=Option.bind_eq_some_iff.mp q
  refine k_ ?_
  exact offT NT ho
structure TabsOf (B:Base)(T:Tabs):Prop where
  tg:T.gnames=B.T.gnames
  tm:T.mnames=B.T.mnames
  tl:∀ k n a b s,T.lamE k n a b s=true→B.T.lamE k n a b s=true
  ts:∀ k n a b s,T.lamS k n a b s=true→B.T.lamS k n a b s=true
noncomputable def fdOf (o:Obj):Option FuncData:=match o.data with
  | .func fd=>some fd
  | _=>none
theorem fdOf_i {o:Obj}{fd:FuncData}(h:fdOf o=some fd):o.data = .func fd:=by
  unfold fdOf at h
  cases r:o.data with
  | func f=>rw[r] at h;cases h;rfl
  | _=>rw[r] at h;cases h
noncomputable def fdAt (K:Frag)(a:Addr):Option FuncData:=(K.lookup a).bind fdOf
noncomputable def isQ (q:Str):Value→Bool
  | .str s _=>decide (s=q)
  | _=>false
noncomputable def fieldsOf (o:Obj):Option (Array Value):=match o.data with
  | .fields fs=>some fs
  | _=>none
noncomputable def codeB (K:Frag)(fd:FuncData):Bool:=onS (fun fs:Array Value=>onS (isQ fd.qualname) fs[1]?) ((refA fd.code).bind fun c=>(K.lookup c).bind fieldsOf)
theorem codeB_i {K:Frag}{fd:FuncData}(h:codeB K fd=true):∃ c oc fs t,fd.code = .ref c∧K.lookup c=some oc∧oc.data = .fields fs∧fs[1]? = some (.str fd.qualname t):=by
  refine via fun R_ k_=>?_
  obtain⟨fs,q,h⟩:=onS_i h
  obtain⟨c,hc,q⟩:=Option.bind_eq_some_iff.mp q
  obtain⟨o,ho,q⟩:=Option.bind_eq_some_iff.mp q
  obtain⟨v,hv,h⟩:=onS_i h
  refine k_ ?_
  have e:o.data = .fields fs:=by
    unfold fieldsOf at q
    cases r:o.data with
    | fields f=>rw[r] at q;cases q;rfl
    | _=>rw[r] at q;cases q
  cases v with
  | str s t=>exact⟨c,o,fs,t,refA_i hc,ho,e,by rw[hv,show s=_ from of_decide_eq_true h]⟩
  | _=>exact bad h
noncomputable def stmtsOf:FuncBody→Option (List Stmt)
  | .stmts b=>some b
  | _=>none
theorem stmtsOf_i {b:FuncBody}{ss:List Stmt}(h:stmtsOf b=some ss):b = .stmts ss:=by
  cases b <;> cases h
  rfl
noncomputable def coreB (K:Frag)(T:Tabs)(f:IFn)(fd:FuncData):Bool :=
  fd.closure.isEmpty&&decide (fd.globals=mainGlobals)&&decide (fd.builtins=builtinsNs)&&decide (f.np≤f.names.length)&&scopeOk fd.scope f.names&&fd.scope.names.all (fun p=>p.2 != .free) &&
  (f.names.take f.np).all (fun n=>jH fd.scope (toS n) .local||jH fd.scope (toS n) .cell)&&codeB K fd&&onS (fun b=>mSs T fd.scope f.names f.body b) (stmtsOf fd.body)
theorem coreB_i {K:Frag}{B:Base}(X:K.In B.h₀)(NT:∀ b∈B.tabP,K.lookup b=none){T:Tabs}(TT:TabsOf B T){a:Addr}{f:IFn}{fd:FuncData}(ss:∀ w,T.sfx=some w→∃ q∈B.tabs,fd.code = .ref q.1∧B.siteQ q.1=(fd.qualname ++ ".<locals>.")++toS w)(e:fdAt K a=some fd)(h:coreB K T f fd=true):FnCore B a fd T f.names f.np∧∃ b,fd.body = .stmts b∧mSs T fd.scope f.names f.body b=true:=by
  refine via fun R_ k_=>?_
  obtain⟨o,ho,hd⟩:=Option.bind_eq_some_iff.mp e
  have h:=jQ h
  obtain⟨b,hb,hm⟩:=onS_i h.2
  have h:=jQ h.1
  obtain⟨c,oc,fs,t,c1,c2,c3,c4⟩:=codeB_i h.2
  refine k_ ?_
  have h:=jQ h.1
  have h7:=h.2
  have h:=jQ h.1
  have h6:=h.2
  have h:=jQ h.1
  have h5:=h.2
  have h:=jQ h.1
  have h4:=of_decide_eq_true h.2
  have h:=jQ h.1
  have h3:=of_decide_eq_true h.2
  have h:=jQ h.1
  refine⟨⟨⟨o,X _ _ ho,fdOf_i hd⟩,offT NT ho,TT.tg,TT.tm,List.isEmpty_iff.mp h.1,of_decide_eq_true h.2,h3,h4,h5,fun p hp=>?_,fun n hn=>?_,ss,TT.tl,TT.ts,⟨c,oc,fs,t,c1,X _ _ c2,offT NT c2,c3,c4⟩⟩,b,stmtsOf_i hb,hm⟩
  · exact bne_iff_ne.mp (List.all_eq_true.mp h6 p hp)
  · exact(Bool.or_eq_true _ _).mp (List.all_eq_true.mp h7 n hn)
noncomputable def isNoneV:Value→Bool
  | .none=>true
  | _=>false
theorem isNoneV_i {v:Value}(h:isNoneV v=true):v = .none:=by
  cases v <;> first | rfl | exact bad h
noncomputable def plainB (f:IFn)(fd:FuncData):Bool:=plainArgs fd.params (f.names.take f.np)&&isNoneV fd.defaults&&isNoneV fd.kwdefaults
noncomputable def fnB (K:Frag)(T:Tabs)(f:IFn)(a:Addr):Bool:=onS (fun fd=>coreB K T f fd&&plainB f fd) (fdAt K a)
noncomputable def siteB (K:Frag)(T:Tabs)(tabs:List (Addr×Addr))(siteQ:Addr→Str)(a:Addr):Bool:=@Option.rec _ (fun q_=>Bool) true (fun w=>onS (fun fd:FuncData=>onS (fun c=>tabs.any fun q=>decide (q.1=c)&&decide (siteQ q.1=(fd.qualname ++ ".<locals>.")++toS w)) (refA fd.code)) (fdAt K a)) T.sfx
theorem siteB_i {K:Frag}{B:Base}{T:Tabs}{a:Addr}{fd:FuncData}(e:fdAt K a=some fd)(h:siteB K T B.tabs B.siteQ a=true):∀ w,T.sfx=some w→∃ q∈B.tabs,fd.code = .ref q.1∧B.siteQ q.1=(fd.qualname ++ ".<locals>.")++toS w:=fun w hw=>by
  unfold siteB at h
  rw[hw] at h
  obtain⟨fd',e',h⟩:=onS_i (f:=_) h
  rw[e] at e'
  cases e'
  refine via fun R_ k_=>?_
  obtain⟨c,hc,h⟩:=onS_i h
  obtain⟨q,hq,h⟩:=List.any_eq_true.mp h
  refine k_ ?_
  have h:=jQ h
  refine⟨q,hq,?_,of_decide_eq_true h.2⟩
  rw[of_decide_eq_true h.1]
  exact refA_i hc
theorem fnB_i {K:Frag}{B:Base}(X:K.In B.h₀)(NT:∀ b∈B.tabP,K.lookup b=none){T:Tabs}(TT:TabsOf B T){k:Nat}{f:IFn}(hs:siteB K T B.tabs B.siteQ (B.fnA k)=true)(h:fnB K T f (B.fnA k)=true):FnOK B k f:=by
  refine via fun R_ k_=>?_
  obtain⟨fd,e,h⟩:=onS_i h
  have h:=jQ h
  obtain⟨C,b,hb,hm⟩:=coreB_i X NT TT (siteB_i e hs) e h.1
  refine k_ ?_
  have g:=jQ h.2
  have g1:=jQ g.1
  refine⟨fd,T,b,C,hb,hm,fun s G H vs q_ hl=>BindsTo.of_eq (bind_plain g1.1 (isNoneV_i g1.2) (isNoneV_i g.2) ?_ ?_)⟩
  · rw[hl,List.length_take];have:=C.hnp;omega
  · exact(scopeOk_iff C.sc).nod.sublist (List.take_sublist _ _)
end
section
set_option backward.match.sparseCases false
open PySem PySem.W PyProof.Rows PySem.Calls
noncomputable abbrev limNames:List (List Nat):=[[115,101,108,102],[100,101,112,116,104],[102,114,97,109,101,115],[115,116,101,112,115],[116,101,120,116]]
noncomputable def limItems (K:Frag)(a:Addr):List Value:=(((fdAt K a).bind fun fd=>(refA fd.defaults).bind fun T=>(K.lookup T).bind (seqOf "tuple")).map fun p=>p.1.toList).getD []
noncomputable def bindK (K:Frag)(S:Setting)(a:Addr)(ar:Args):Option (List (Str×Value)):=(fdAt K a).bind fun fd=>peek K S (bindArgs fd ar)
structure LimOk (K:Frag)(a:Addr):Prop where
  items:repAll (fun x v=>onS (fun i=>isInt i v) (wY x)) [.int 40,.int 200,.int (10 ^ 9),.int (10 ^ 6)] (limItems K a)=true
  five:∀ S x u1 u2 u3 u4,bindK K S a ⟨[x,u1,u2,u3,u4],[]⟩=some ((limNames.map toS).zip [x,u1,u2,u3,u4])
  one:∀ S x,bindK K S a ⟨[x],[]⟩=some ((limNames.map toS).zip (x::limItems K a))
  kw:∀ S x u,bindK K S a ⟨[x],[(toS [115,116,101,112,115],u)]⟩=some ((limNames.map toS).zip (x::(limItems K a).set 2 u))
theorem four_ints {i j k l:Int}{vs:List Value}(h:repAll (fun x v=>onS (fun i=>isInt i v) (wY x)) [.int i,.int j,.int k,.int l] vs=true):∃ a b c d,vs=[.int i a,.int j b,.int k c,.int l d]:=by
  refine onC_e (f:=_) h fun v1 r1 h1=>?_
  have k1:=jQ h1
  obtain⟨a,rfl⟩:=isInt_i (i:=i) k1.1
  refine onC_e (f:=_) k1.2 fun v2 r2 h2=>?_
  have k2:=jQ h2
  obtain⟨b,rfl⟩:=isInt_i (i:=j) k2.1
  refine onC_e (f:=_) k2.2 fun v3 r3 h3=>?_
  have k3:=jQ h3
  obtain⟨c,rfl⟩:=isInt_i (i:=k) k3.1
  refine onC_e (f:=_) k3.2 fun v4 r4 h4=>?_
  have k4:=jQ h4
  obtain⟨d,rfl⟩:=isInt_i (i:=l) k4.1
  cases on0_i (show on0 r4=true from k4.2)
  exact⟨a,b,c,d,rfl⟩
theorem bindK_i {K:Frag}{a:Addr}{fd:FuncData}{ar:Args}{bs:List (Str×Value)}(hf:fdAt K a=some fd)(h:∀ S:Setting,bindK K S a ar=some bs){s:Shared}(X:K.In s.heap):BindsTo s fd ar bs:=fun M A E Q hQ=>by
  have h:=h ⟨M.prog,M.w.params⟩
  unfold bindK at h
  rw[hf] at h
  exact(Looks.of_peek X h).here hQ
theorem len_cons {α:Type}{l:List α}{n:Nat}(h:l.length=n+1):∃ a r,l=a::r∧r.length=n:=by
  cases l with
  | nil=>cases h
  | cons a r=>exact⟨a,r,rfl,Nat.succ.inj h⟩
theorem five_len {vs:List Value}(h:vs.length=5):∃ a b c d e,vs=[a,b,c,d,e]:=by
  obtain⟨a,r1,rfl,h1⟩:=len_cons h
  obtain⟨b,r2,rfl,h2⟩:=len_cons h1
  obtain⟨c,r3,rfl,h3⟩:=len_cons h2
  obtain⟨d,r4,rfl,h4⟩:=len_cons h3
  obtain⟨e,r5,rfl,h5⟩:=len_cons h4
  cases List.length_eq_zero_iff.mp h5
  exact⟨a,b,c,d,e,rfl⟩
theorem lim_bind {K:Frag}{a:Addr}(L:LimOk K a){fd:FuncData}(hf:fdAt K a=some fd):∃ t1 t2 t3 t4,∀ (s:Shared),K.In s.heap →
    (∀ vs,vs.length=5→BindsTo s fd ⟨vs,[]⟩ ((limNames.map toS).zip vs)) ∧
    (∀ x,BindsTo s fd ⟨[x],[]⟩ ((limNames.map toS).zip [x,.int 40 t1,.int 200 t2,.int (10 ^ 9) t3,.int (10 ^ 6) t4])) ∧
    ∀ x u,BindsTo s fd ⟨[x],[(toS [115,116,101,112,115],u)]⟩ ((limNames.map toS).zip [x,.int 40 t1,.int 200 t2,u,.int (10 ^ 6) t4]):=by
  refine via fun R_ k_=>?_
  obtain⟨t1,t2,t3,t4,e⟩:=four_ints L.items
  refine k_ ?_
  refine⟨t1,t2,t3,t4,fun s X=>⟨fun vs hv=>?_,fun x=>?_,fun x u=>?_⟩⟩
  · obtain⟨b,c,d,f,g,rfl⟩:=five_len hv
    exact bindK_i hf (fun S=>L.five S b c d f g) X
  · exact bindK_i hf (fun S=>by rw[L.one S x,e]) X
  · exact bindK_i hf (fun S=>by rw[L.kw S x u,e];rfl) X
end
section
set_option backward.match.sparseCases false
open PySem PySem.W PyProof.Rows PySem.Calls
noncomputable def mroB (a:Addr):List Value→Bool:=on2 fun x y=>isRef a x&&isTy "object" y
noncomputable def isBi (s:String):Value→Bool
  | .builtin t=>decide (t=s)
  | _=>false
theorem ite_i {α:Type}{c:Bool}{a b:α}(h:(if c=true then some a else none)=some b):c=true∧a=b:=by
  cases c with
  | true=>exact⟨rfl,Option.some.inj h⟩
  | false=>cases h
noncomputable def slotsB (t:String):List (Option Value)→Bool:=onC fun q_=>onC fun q_=>onC fun q_=>onC fun q_=>onC fun k=>onC fun q_ l=>onS (isBi t) k&&on0 l
theorem isBi_i {t:String}{v:Value}(h:isBi t v=true):v = .builtin t:=by
  cases v with
  | builtin u=>exact congrArg _ (of_decide_eq_true h)
  | _=>exact bad h
structure Slots5 where
  k0:Option Value
  k1:Option Value
  k2:Option Value
  k3:Option Value
  k5:Option Value
theorem slots_i {t:String}{l:List (Option Value)}(h:slotsB t l=true):∃ k:Slots5,l=[k.k0,k.k1,k.k2,k.k3,some (.builtin t),k.k5]:=by
  refine onC_e (f:=_) h fun k0 l1 h1=>?_
  refine onC_e (f:=_) h1 fun k1 l2 h2=>?_
  refine onC_e (f:=_) h2 fun k2 l3 h3=>?_
  refine onC_e (f:=_) h3 fun k3 l4 h4=>?_
  refine onC_e (f:=_) h4 fun k4 l5 h5=>?_
  refine onC_e (f:=_) h5 fun k5 l6 h6=>?_
  have h6:=jQ h6
  refine onS_e h6.1 fun v e=>?_
  rw[on0_i h6.2,isBi_i e]
  exact⟨⟨k0,k1,k2,k3,k5⟩,rfl⟩
noncomputable def clsB0 (mro:List Value→Bool)(t:String)(o:Obj)(cd:ClassData):Bool:=isTy "type" o.cls&&mro cd.mro&&cd.hasDict && !cd.hasDel&&slotsB t o.slots.toList
theorem obj4 {o:Obj}{c:Value}{x:Data}{l:List (Option Value)}(h1:o.cls=c)(h2:o.data=x)(h3:o.slots.toList=l):o={ cls:=c,dict:=o.dict,data:=x,slots:=⟨l⟩ }:=by
  cases h1;cases h2;cases h3;rfl
theorem cd3 {cd:ClassData}{m:List Value}(h1:cd.mro=m)(h2:cd.hasDict=true)(h3:cd.hasDel=false):cd={ cd with mro:=m,hasDict:=true,hasDel:=false }:=by
  cases h1;rw[←h2,←h3]
theorem clsB0_i {mro:List Value→Bool}{t:String}{o:Obj}{cd:ClassData}(hd:o.data = .cls cd)(h:clsB0 mro t o cd=true):∃ cr:CR,cr.N=cd.ns∧cr.ab=cd.abstract∧∀ a bm,(mro cd.mro=true→cd.mro = .ref a::bm)→o=cr.obj a bm cr.ab t:=by
  have h:=jQ h
  obtain⟨k,hs⟩:=slots_i h.2
  have h:=jQ h.1
  have e5:=not_i h.2
  have h:=jQ h.1
  have e3:=h.2
  have h:=jQ h.1
  have e1:=isTy_i h.1
  exact⟨⟨cd.name,cd.qualname,cd.ns,cd.bases,cd.slotNames,cd.subclasses,cd.abstract,cd.collection,o.dict,k.k0,k.k1,k.k2,k.k3,k.k5⟩,rfl,rfl,fun a bm hm=>obj4 e1 (hd.trans (congrArg Data.cls (cd3 (hm h.2) e3 e5))) hs⟩
noncomputable def clsOf (a:Addr)(o:Obj):Option Addr:=match o.data with
  | .cls cd=>if clsB0 (mroB a) "object.__new__" o cd && !cd.abstract then some cd.ns else none
  | _=>none
theorem clsOf_i {a N:Addr}{o:Obj}(h:clsOf a o=some N):∃ cr:CR,cr.N=N∧o=cr.obj a [.type "object"] false "object.__new__" :=by
  unfold clsOf at h
  cases hd:o.data with
  | cls cd =>
    rw[hd] at h
    refine via fun R_ k_=>?_
    obtain⟨q,e⟩:=ite_i h
    have q:=jQ q
    obtain⟨cr,h1,h2,h3⟩:=clsB0_i hd q.1
    refine k_ ?_
    refine⟨cr,h1.trans e,?_⟩
    rw[←not_i q.2,←h2]
    refine h3 a _ fun m=>?_
    obtain⟨x,y,e2,g⟩:=on2_i (f:=_) m
    have g:=jQ g
    rw[e2,isTy_i g.2,refA_i (of_decide_eq_true g.1)]
  | _=>rw[hd] at h;cases h
noncomputable def isFn (K:Frag)(a:Addr):Bool:=onS (fun o:Obj=>isTy "function" o.cls) (K.lookup a)
noncomputable def clsB (K:Frag)(T:Tabs)(fnA:Nat→Addr)(a:Addr)(ini:Option Nat)(mth:List (Nat×Nat)):Bool:=onS (fun N:Addr=>nsB K N &&
  (nsK K N "__getattribute__").isNone&&(nsK K N "__getattr__").isNone&&(nsK K N "__setattr__").isNone&&allFlds.all (fun f=>(nsK K N f.name).isNone) &&
  onS (fun k=>onS (isRef (fnA k)) (nsK K N "__init__")&&isFn K (fnA k)) ini &&
  mth.all (fun p=>onS (fun n=>onS (isRef (fnA p.2)) (nsK K N (toS n))&&allFlds.all (fun f=>decide (f.name≠toS n))) T.mnames[p.1]?&&isFn K (fnA p.2))) ((K.lookup a).bind (clsOf a))
theorem isFn_i {K:Frag}{h:Heap}(X:K.In h){a:Addr}(e:isFn K a=true):∃ o,h.get? a=some o∧o.cls = .type "function" :=by
  obtain⟨o,ho,e⟩:=onS_i e
  exact⟨o,X _ _ ho,isTy_i e⟩
theorem refS_i {v:Option Value}{a:Addr}(h:onS (isRef a) v=true):v=some (.ref a):=by
  obtain⟨u,hu,h⟩:=onS_i h
  rw[hu,refA_i (of_decide_eq_true h)]
theorem isFn_off {K:Frag}{B:Base}(NT:∀ b∈B.tabP,K.lookup b=none){a:Addr}(e:isFn K a=true):a ∉ B.tabP:=by
  obtain⟨o,ho,e⟩:=onS_i e
  exact offT NT ho
theorem clsB_i {K:Frag}{B:Base}(X:K.In B.h₀)(NT:∀ b∈B.tabP,K.lookup b=none){c:Cls}{k:Nat}{mth:List (Nat×Nat)}(h:clsB K B.T B.fnA (B.clA c) (some k) mth=true)(hi:∀ j,B.Gl.ini c=some j→j=k)(hm:∀ i j,B.Gl.mth c i=some j→(i,j)∈mth)
    (hs:∀ n∈B.T.mnames,∃ y,typeLookup (.type "object") (toS n)=pure y):∃ mN,ClassAt B c mN:=by
  obtain⟨N,hN,h⟩:=onS_i h
  obtain⟨o,ho,hc⟩:=Option.bind_eq_some_iff.mp hN
  obtain⟨cr,rfl,rfl⟩:=clsOf_i hc
  have h:=jQ h
  have g7:=List.all_eq_true.mp h.2
  have h:=jQ h.1
  obtain⟨k',hk',h6⟩:=onS_i h.2
  cases hk'
  have g6:=jQ h6
  have h:=jQ h.1
  have g5:=List.all_eq_true.mp h.2
  have h:=jQ h.1
  have g4:=Option.isNone_iff_eq_none.mp h.2
  have h:=jQ h.1
  have g3:=Option.isNone_iff_eq_none.mp h.2
  have h:=jQ h.1
  have g2:=Option.isNone_iff_eq_none.mp h.2
  refine⟨nsK K cr.N,⟨cr,X _ _ ho,nsB_i X h.1,nsB_off NT h.1⟩,offT NT ho,g2,g3,g4,fun f=>Option.isNone_iff_eq_none.mp (g5 f (mem_flds f)),fun j hj=>?_,fun i j hj=>?_⟩
  · cases hi j hj
    obtain⟨o,e1,e2⟩:=isFn_i X g6.2
    exact⟨refS_i g6.1,o,e1,isFn_off NT g6.2,e2⟩
  · have:=jQ (g7 _ (hm i j hj))
    refine via fun R_ k_=>?_
    obtain⟨n,hn,g⟩:=onS_i this.1
    have g:=jQ g
    obtain⟨o,e1,e2⟩:=isFn_i X this.2
    obtain⟨y,hy⟩:=hs n (List.mem_of_getElem? hn)
    refine k_ ?_
    exact⟨n,y,hn,refS_i g.1,hy,fun f=>of_decide_eq_true (List.all_eq_true.mp g.2 f (mem_flds f)),o,e1,isFn_off NT this.2,e2⟩
noncomputable def Bi.nm:Bi→List Nat
  | .len=>[108,101,110]
  | .abs=>[97,98,115]
  | .int=>[105,110,116]
  | .ord=>[111,114,100]
  | .chr=>[99,104,114]
  | .any=>[97,110,121]
  | .isinstance=>[105,115,105,110,115,116,97,110,99,101]
  | .list=>[108,105,115,116]
  | .tuple=>[116,117,112,108,101]
  | .range=>[114,97,110,103,101]
  | .zip=>[122,105,112]
  | .enumerate=>[101,110,117,109,101,114,97,116,101]
  | .min=>[109,105,110]
theorem boot_bi (b:Bi):bootBuiltins (toS b.nm)=some b.val:=by cases b <;> kernel_rfl
theorem bi_name (b:Bi):toS b.nm ≠ "__name__" :=by cases b <;> decide +kernel
noncomputable def toBi:AV→Option Bi
  | .bi b=>some b
  | _=>none
theorem toBi_i {v:AV}{b:Bi}(h:toBi v=some b):v = .bi b:=by
  cases v <;> cases h
  rfl
noncomputable def valB (K:Frag)(fnA:Nat→Addr)(clA:Cls→Addr)(n:List Nat)(v:AV):Bool:=@Option.rec _ (fun q_=>Bool) (onS (repB K fnA clA 8 v) (nsK K mainGlobals (toS n))) (fun b=>(nsK K mainGlobals (toS n)).isNone&&decide (n=b.nm)) (toBi v)
theorem valB_i {K:Frag}{B:Base}(X:K.In B.h₀)(NT:∀ b∈B.tabP,K.lookup b=none){n:List Nat}{v:AV}(h:valB K B.fnA B.clA n v=true)(hg:B.mg=nsK K mainGlobals)(hb:∀ x:Str,x ≠ "__name__" → B.mb x=bootBuiltins x) :
    ∃ u,(B.mg (toS n)=some u∨(B.mg (toS n)=none∧B.mb (toS n)=some u))∧∀ G:St,(∀ b o,B.h₀.get? b=some o→b ∉ B.tabP→G.g b=some o)→Rep B G v u:=by
  unfold valB at h
  cases q:toBi v with
  | none =>
    rw[q] at h
    obtain⟨u,hu,h⟩:=onS_i (f:=_) h
    exact⟨u,.inl (by rw[hg];exact hu),fun G hG=>repB_i (fun a o e=>hG a o (X _ _ e) (offT NT e)) rfl rfl _ _ _ h⟩
  | some b =>
    rw[q] at h
    have h:=jQ h
    have e:=of_decide_eq_true h.2
    rw[toBi_i q]
    subst e
    exact⟨b.val,.inr ⟨by rw[hg];exact Option.isNone_iff_eq_none.mp h.1,by rw[hb _ (bi_name b),boot_bi]⟩,fun G q_=>rfl⟩
end
section
set_option maxRecDepth 10000
set_option backward.match.sparseCases false
open PySem
noncomputable def c_0:CFn:=CFn.mk [[101,110,100],[109,101,116],[98,101,104,105,110,100],[102,108,97,103,115],[116,101,120,116],[116,114,101,101,115]] 2 (.expr (zK (zB 62) [(n_slc (zQ 5) (some (zX 1)) none),(zQ 4),(zQ 0),(zQ 1),(zQ 3),(zQ 2)]))
noncomputable def c_1:CFn:=CFn.mk [[101,110,100],[109,101,116],[97,116],[98,101,104,105,110,100],[99,111,117,110,116],[102,108,97,103,115],[108,101,97,115,116],[116,101,120,116],[116,114,101,101]] 2 (.stmts [(wB (ZH [(zD OpC.ge (zQ 4) (zQ 6)),(zD OpC.eq (zQ 0) (zQ 2))]) [(jX jV)] []),
    (jX (zK (zB 63) [(zQ 8),(zQ 7),(zQ 0),(zQ 1),(zQ 5),(zQ 3),(jZ Op2.add (zQ 4) (zX 1))]))])
noncomputable def c_2:CFn:=CFn.mk [[101,110,100],[109,101,116],[97,116],[98,101,104,105,110,100],[110,117,109,98,101,114]] 2 (.expr (zK (zQ 3) [(zQ 0),(zK (zB 64) [(zQ 1),(zQ 4),(zQ 2),(zQ 0)])]))
noncomputable def c_3:CFn:=CFn.mk [[101,110,100],[109,101,116]] 2 (.expr (jC [(zQ 0),(zQ 1)]))
noncomputable def c_4:CFn:=CFn.mk [[101,110,100],[109,101,116]] 2 (.expr (jC [(zQ 0),(zQ 1)]))
noncomputable def clT (k:Nat):Option CFn:=(cond (Nat.ble 3 k) (cond (Nat.ble 4 k) (cond (Nat.ble 5 k) none (some c_4)) (some c_3)) (cond (Nat.ble 1 k) (cond (Nat.ble 2 k) (some c_2) (some c_1)) (some c_0)))
noncomputable def sfxT (k:Nat):Option (List Nat):=(cond (Nat.ble 23 k) (cond (Nat.ble 34 k) (cond (Nat.ble 40 k) (cond (Nat.ble 43 k) (cond (Nat.ble 44 k) (cond (Nat.ble 45 k) none (some [60,108,97,109,98,100,97,62])) (some [60,108,97,109,98,100,97,62])) (cond (Nat.ble 41 k) (cond (Nat.ble 42 k) none none) (some [111,110,99,101]))) (cond (Nat.ble 37 k) (cond (Nat.ble 38 k) (cond (Nat.ble 39 k) (some [60,108,97,109,98,100,97,62]) none) none) (cond (Nat.ble 35 k) (cond (Nat.ble 36 k) none none) none))) (cond (Nat.ble 28 k) (cond (Nat.ble 31 k) (cond (Nat.ble 32 k) (cond (Nat.ble 33 k) none none) none) (cond (Nat.ble 29 k) (cond (Nat.ble 30 k) none none) none)) (cond (Nat.ble 25 k) (cond (Nat.ble 26 k) (cond (Nat.ble 27 k) none none) none) (cond (Nat.ble 24 k) none none)))) (cond (Nat.ble 11 k) (cond (Nat.ble 17 k) (cond (Nat.ble 20 k) (cond (Nat.ble 21 k) (cond (Nat.ble 22 k) none none) none) (cond (Nat.ble 18 k) (cond (Nat.ble 19 k) none none) none)) (cond (Nat.ble 14 k) (cond (Nat.ble 15 k) (cond (Nat.ble 16 k) none none) none) (cond (Nat.ble 12 k) (cond (Nat.ble 13 k) none none) none))) (cond (Nat.ble 5 k) (cond (Nat.ble 8 k) (cond (Nat.ble 9 k) (cond (Nat.ble 10 k) none none) none) (cond (Nat.ble 6 k) (cond (Nat.ble 7 k) none none) none)) (cond (Nat.ble 2 k) (cond (Nat.ble 3 k) (cond (Nat.ble 4 k) none none) none) (cond (Nat.ble 1 k) none none)))))
noncomputable def f_is_line_end:IFn:=IFn.mk [[99,111,100,101]] 1 [(jX (zD OpC.isIn (zQ 0) (zB 0)))]
noncomputable def f_small_code:IFn:=IFn.mk [[99,111,100,101],[102,105,114,115,116],[108,97,115,116],[119,97,121]] 1 [(wB (zD OpC.isIn (zQ 0) (zB 4)) [(jX (zA (zB 4) (zQ 0)))] []),
    (s_for (t_tup [(zC 1 false),(zC 2 false),(zC 3 false)]) (i_of (zB 2)) [(wB (n_cmp2 OpC.le OpC.le (zQ 1) (zQ 0) (zQ 2)) [(jX (jZ Op2.add (zQ 0) (zQ 3)))] [])]),
    (s_for (t_tup [(zC 1 false),(zC 2 false)]) (i_of (zB 3)) [(wB (ZH [(n_cmp2 OpC.le OpC.le (zQ 1) (zQ 0) (zQ 2)),(zD OpC.eq (jZ Op2.mod (jZ Op2.sub (zQ 0) (zQ 1)) (zX 2)) (zX 0))]) [(jX (jZ Op2.add (zQ 0) (zX 1)))] [])]),
    (jX (zQ 0))]
noncomputable def f_great_code:IFn:=IFn.mk [[99,111,100,101],[102,105,114,115,116],[108,97,115,116],[119,97,121]] 1 [(wB (zD OpC.isIn (zQ 0) (zB 5)) [(jX (zA (zB 5) (zQ 0)))] []),
    (s_for (t_tup [(zC 1 false),(zC 2 false),(zC 3 false)]) (i_of (zB 2)) [(wB (n_cmp2 OpC.le OpC.le (zQ 1) (jZ Op2.sub (zQ 0) (zQ 3)) (zQ 2)) [(jX (jZ Op2.sub (zQ 0) (zQ 3)))] [])]),
    (s_for (t_tup [(zC 1 false),(zC 2 false)]) (i_of (zB 3)) [(wB (ZH [(n_cmp2 OpC.le OpC.le (zQ 1) (zQ 0) (zQ 2)),(zD OpC.eq (jZ Op2.mod (jZ Op2.sub (zQ 0) (zQ 1)) (zX 2)) (zX 1))]) [(jX (jZ Op2.sub (zQ 0) (zX 1)))] [])]),
    (jX (zQ 0))]
noncomputable def f_has:IFn:=IFn.mk [[114,97,110,103,101,115],[99,111,100,101],[108,111,119],[104,105,103,104],[109,105,100,100,108,101]] 2 [(zU (zC 2 false) (zX 0)),
    (zU (zC 3 false) (zK (zB 39) [(zQ 0)])),
    (s_while (zD OpC.lt (zQ 2) (zQ 3)) [(zU (zC 4 false) (jZ Op2.fdiv (jZ Op2.add (zQ 2) (zQ 3)) (zX 2))),
    (wB (zD OpC.lt (zA (zA (zQ 0) (zQ 4)) (zX 1)) (zQ 1)) [(zU (zC 2 false) (jZ Op2.add (zQ 4) (zX 1)))] [(zU (zC 3 false) (zQ 4))])]),
    (jX (ZH [(zD OpC.lt (zQ 2) (zK (zB 39) [(zQ 0)])),(zD OpC.le (zA (zA (zQ 0) (zQ 2)) (zX 0)) (zQ 1))]))]
noncomputable def f_is_word:IFn:=IFn.mk [[99,111,100,101]] 1 [(jX (zK (zB 10) [(zB 9),(zQ 0)]))]
noncomputable def f_canon:IFn:=IFn.mk [[99,111,100,101],[103,114,101,97,116]] 1 [(wB (zD OpC.isIn (zQ 0) (zB 6)) [(jX (zQ 0))] []),
    (zU (zC 1 false) (zK (zB 8) [(zQ 0)])),
    (jX (n_ite (ZH [(zD OpC.gt (zQ 0) (zX 127)),(zD OpC.lt (zQ 1) (zX 128))]) (zQ 0) (zQ 1)))]
noncomputable def f_has_folded:IFn:=IFn.mk [[114,97,110,103,101,115],[99,111,100,101],[103,114,101,97,116],[115,111,109,101]] 2 [(zU (zC 2 true) (zK (zB 12) [(zQ 1)])),
    (zU (zC 3 false) (jZ Op2.add (n_lst false [(zQ 1),(zQ 2),(zK (zB 7) [(zQ 2)])]) (n_comp [[111,110,101],[103,114,101,97,116]] (zQ 0) (zC 0 false) (i_of (zB 5)) [(zD OpC.eq (zA (zB 5) (zQ 0)) (zQ 1))] [(2,1)]))),
    (jX (zK (zB 44) [(n_comp [[111,110,101],[103,114,101,97,116],[114,97,110,103,101,115]] (ZH [(zD OpC.eq (zK (zB 12) [(zQ 0)]) (zQ 1)),(zK (zB 10) [(zQ 2),(zQ 0)])]) (zC 0 false) (i_of (zQ 3)) [] [(2,1),(0,2)])]))]
noncomputable def f_JSFail_init:IFn:=IFn.mk [[115,101,108,102],[107,105,110,100],[116,101,120,116]] 3 [(zU (t_attr (zQ 0) Fld.kind) (zQ 1)),
    (zU (t_attr (zQ 0) Fld.text) (zQ 2))]
noncomputable def f_Limits_init:IFn:=IFn.mk [[115,101,108,102],[100,101,112,116,104],[102,114,97,109,101,115],[115,116,101,112,115],[116,101,120,116]] 5 [(zU (t_attr (zQ 0) Fld.depth) (zQ 1)),
    (zU (t_attr (zQ 0) Fld.frames) (zQ 2)),
    (zU (t_attr (zQ 0) Fld.steps) (zQ 3)),
    (zU (t_attr (zQ 0) Fld.text) (zQ 4))]
noncomputable def f_PatternCode_init:IFn:=IFn.mk [[115,101,108,102]] 1 [(zU (t_attr (zQ 0) Fld.steps) (n_lst true [])),
    (zU (t_attr (zQ 0) Fld.loops) (zX 0))]
noncomputable def f_PatternCode_emit:IFn:=IFn.mk [[115,101,108,102],[115,116,101,112]] 2 [(ZX (n_meth (jU (zQ 0) Fld.steps) Me.append [(zQ 1)])),
    (jX (jZ Op2.sub (zK (zB 39) [(jU (zQ 0) Fld.steps)]) (zX 1)))]
noncomputable def f_PatternCode_put:IFn:=IFn.mk [[115,101,108,102],[116,114,101,101],[107,105,110,100],[116,101,114,109],[97,116]] 2 [(zU (zC 2 false) (zA (zQ 1) (zX 0))),
    (wB (zD OpC.eq (zQ 2) (jA [97,108,116])) [(ZX (ZK (zQ 0) 3 [(zA (zQ 1) (zX 1))]))] [(wB (zD OpC.eq (zQ 2) (jA [115,101,113])) [(s_for (zC 3 false) (i_of (zA (zQ 1) (zX 1))) [(ZX (ZK (zQ 0) 1 [(zQ 3)]))])] [(wB (zD OpC.eq (zQ 2) (jA [103,114,111,117,112])) [(ZX (ZK (zQ 0) 4 [(zA (zQ 1) (zX 1)),(zA (zQ 1) (zX 2))]))] [(wB (zD OpC.eq (zQ 2) (jA [108,111,111,107])) [(zU (zC 4 false) (ZK (zQ 0) 0 [jV])),
    (ZX (ZK (zQ 0) 1 [(zA (zQ 1) (zX 2))])),
    (ZX (ZK (zQ 0) 0 [(jC [(zB 31)])])),
    (zU (t_sub (jU (zQ 0) Fld.steps) (zQ 4)) (jC [(zB 25),(zA (zQ 1) (zX 1)),(zK (zB 39) [(jU (zQ 0) Fld.steps)])]))] [(wB (zD OpC.eq (zQ 2) (jA [114,101,112,101,97,116])) [(ZX (ZK (zQ 0) 5 [(zQ 1)]))] [(ZX (ZK (zQ 0) 0 [(ZK (zQ 0) 2 [(zQ 1)])]))])])])])])]
noncomputable def f_PatternCode_plain:IFn:=IFn.mk [[115,101,108,102],[116,114,101,101],[107,105,110,100]] 2 [(zU (zC 2 false) (zA (zQ 1) (zX 0))),
    (wB (zD OpC.eq (zQ 2) (jA [99,104,97,114])) [(jX (jC [(zB 16),(zA (zQ 1) (zX 1))]))] []),
    (wB (zD OpC.eq (zQ 2) (jA [99,108,97,115,115])) [(jX (jC [(zB 18),(zA (zQ 1) (zX 1)),(zA (zQ 1) (zX 2))]))] []),
    (wB (zD OpC.eq (zQ 2) (jA [98,111,117,110,100,97,114,121])) [(jX (jC [(zB 21),(zA (zQ 1) (zX 1))]))] []),
    (wB (zD OpC.eq (zQ 2) (jA [98,97,99,107])) [(jX (jC [(zB 24),(zA (zQ 1) (zX 1))]))] []),
    (jX (jC [(n_pick [[97,110,121],[115,116,97,114,116],[101,110,100]] [(zB 17),(zB 19),(zB 20)] (zQ 2))]))]
noncomputable def f_PatternCode_put_choice:IFn:=IFn.mk [[115,101,108,102],[116,114,101,101,115],[101,110,100,115],[116,114,101,101],[97,116]] 2 [(zU (zC 2 false) (n_lst true [])),
    (s_for (zC 3 false) (i_of (n_slc (zQ 1) none (some (n_neg (zX 1))))) [(zU (zC 4 false) (ZK (zQ 0) 0 [jV])),
    (ZX (ZK (zQ 0) 1 [(zQ 3)])),
    (ZX (n_meth (zQ 2) Me.append [(ZK (zQ 0) 0 [jV])])),
    (zU (t_sub (jU (zQ 0) Fld.steps) (zQ 4)) (jC [(zB 26),(jZ Op2.add (zQ 4) (zX 1)),(zK (zB 39) [(jU (zQ 0) Fld.steps)])]))]),
    (ZX (ZK (zQ 0) 1 [(zA (zQ 1) (n_neg (zX 1)))])),
    (s_forL (zC 4 false) (zQ 2) [(zU (t_sub (jU (zQ 0) Fld.steps) (zQ 4)) (jC [(zB 27),(zK (zB 39) [(jU (zQ 0) Fld.steps)])]))])]
noncomputable def f_PatternCode_put_group:IFn:=IFn.mk [[115,101,108,102],[110,117,109,98,101,114],[116,114,101,101]] 3 [(wB (zD OpC.is (zQ 1) jV) [(ZX (ZK (zQ 0) 1 [(zQ 2)])),
    s_retN] []),
    (ZX (ZK (zQ 0) 0 [(jC [(zB 22),(zQ 1)])])),
    (ZX (ZK (zQ 0) 1 [(zQ 2)])),
    (ZX (ZK (zQ 0) 0 [(jC [(zB 23),(zQ 1)])]))]
noncomputable def f_PatternCode_put_repeat:IFn:=IFn.mk [[115,101,108,102],[116,114,101,101],[108,101,97,115,116],[109,111,115,116],[105,115,95,108,97,122,121],[116,101,114,109],[102,105,114,115,116],[98,101,104,105,110,100],[108,111,111,112],[104,101,97,100]] 2 [(zU (t_tup [(zC 2 false),(zC 3 false),(zC 4 false),(zC 5 false),(zC 6 false),(zC 7 false)]) (n_slc (zQ 1) (some (zX 1)) none)),
    (zU (zC 8 false) (jU (zQ 0) Fld.loops)),
    (s_augA (zQ 0) Fld.loops Op2.add (zX 1)),
    (ZX (ZK (zQ 0) 0 [(jC [(zB 28),(zQ 8)])])),
    (zU (zC 9 false) (ZK (zQ 0) 0 [jV])),
    (ZX (ZK (zQ 0) 1 [(zQ 5)])),
    (ZX (ZK (zQ 0) 0 [(jC [(zB 30),(zQ 8),(zQ 2),(zQ 9)])])),
    (zU (t_sub (jU (zQ 0) Fld.steps) (zQ 9)) (jC [(zB 29),(zQ 8),(zQ 2),(zQ 3),(zQ 4),(zQ 6),(zQ 7),(zK (zB 39) [(jU (zQ 0) Fld.steps)])]))]
noncomputable def f_pattern_code:IFn:=IFn.mk [[116,114,101,101],[99,111,100,101]] 1 [(zU (zC 1 false) (zK (zB 32) [])),
    (ZX (ZK (zQ 1) 1 [(zQ 0)])),
    (ZX (ZK (zQ 1) 0 [(jC [(zB 31)])])),
    (jX (jC [(jU (zQ 1) Fld.steps),(jU (zQ 1) Fld.loops)]))]
noncomputable def f_changed:IFn:=IFn.mk [[114,111,119],[97,116],[118,97,108,117,101]] 3 [(jX (jZ Op2.add (jZ Op2.add (n_slc (zQ 0) none (some (zQ 1))) (jC [(zQ 2)])) (n_slc (zQ 0) (some (jZ Op2.add (zQ 1) (zX 1))) none)))]
noncomputable def f_Search_init:IFn:=IFn.mk [[115,101,108,102],[115,116,101,112,115],[116,101,120,116],[105,103,110,111,114,101,115,95,99,97,115,101],[105,115,95,109,117,108,116,105,108,105,110,101],[108,105,109,105,116,115]] 6 [(zU (t_attr (zQ 0) Fld.steps) (zQ 1)),
    (zU (t_attr (zQ 0) Fld.text) (zQ 2)),
    (zU (t_attr (zQ 0) Fld.ic) (zQ 3)),
    (zU (t_attr (zQ 0) Fld.ml) (zQ 4)),
    (zU (t_attr (zQ 0) Fld.left) (jU (zQ 5) Fld.steps)),
    (zU (t_attr (zQ 0) Fld.waiting) (n_lst true []))]
noncomputable def f_Search_run:IFn:=IFn.mk [[115,101,108,102],[112,99],[97,116],[103,114,111,117,112,115],[108,111,111,112,115],[98,111,116,116,111,109],[115,116,97,116,101],[115,116,101,112]] 5 [(zU (zC 5 false) (zK (zB 39) [(jU (zQ 0) Fld.waiting)])),
    (zU (zC 6 false) (jC [(zQ 1),(zQ 2),(zQ 3),(zQ 4)])),
    (s_while (zD OpC.isNot (zQ 6) jV) [(s_augA (zQ 0) Fld.left Op2.sub (zX 1)),
    (wB (zD OpC.lt (jU (zQ 0) Fld.left) (zX 0)) [(s_raise (zK (zB 14) [(jA [82,97,110,103,101,69,114,114,111,114]),(jA [97,32,112,97,116,116,101,114,110,32,116,97,107,101,115,32,116,111,111,32,109,97,110,121,32,115,116,101,112,115])]))] []),
    (zU (zC 7 false) (zA (jU (zQ 0) Fld.steps) (zA (zQ 6) (zX 0)))),
    (wB (zD OpC.eq (zA (zQ 7) (zX 0)) (zB 31)) [(zU (t_attr (zQ 0) Fld.waiting) (n_slm (jU (zQ 0) Fld.waiting) none (some (zQ 5)))),
    (jX (jC [(zA (zQ 6) (zX 1)),(zA (zQ 6) (zX 2))]))] []),
    (zU (zC 6 false) (ZK (zQ 0) 7 [(zQ 7),(zQ 6)])),
    (wB (ZH [(zD OpC.is (zQ 6) jV),(zD OpC.gt (zK (zB 39) [(jU (zQ 0) Fld.waiting)]) (zQ 5))]) [(zU (zC 6 false) (n_meth (jU (zQ 0) Fld.waiting) Me.pop []))] [])]),
    (jX jV)]
noncomputable def f_Search_advance:IFn:=IFn.mk [[115,101,108,102],[115,116,101,112],[115,116,97,116,101],[119,104,97,116],[112,99],[97,116],[103,114,111,117,112,115],[108,111,111,112,115],[105,115,95,109,101,116],[101,110,100]] 3 [(zU (t_tup [(zC 3 false),(t_tup [(zC 4 false),(zC 5 false),(zC 6 false),(zC 7 false)])]) (jC [(zA (zQ 1) (zX 0)),(zQ 2)])),
    (wB (zD OpC.le (zQ 3) (zB 18)) [(zU (zC 8 false) (ZH [(zD OpC.lt (zQ 5) (zK (zB 39) [(jU (zQ 0) Fld.text)])),(ZK (zQ 0) 8 [(zQ 1),(zK (zB 42) [(zA (jU (zQ 0) Fld.text) (zQ 5))])])])),
    (jX (n_ite (zQ 8) (jC [(jZ Op2.add (zQ 4) (zX 1)),(jZ Op2.add (zQ 5) (zX 1)),(zQ 6),(zQ 7)]) jV))] []),
    (wB (zD OpC.le (zQ 3) (zB 21)) [(jX (n_ite (ZK (zQ 0) 9 [(zQ 1),(zQ 5)]) (jC [(jZ Op2.add (zQ 4) (zX 1)),(zQ 5),(zQ 6),(zQ 7)]) jV))] []),
    (wB (zD OpC.eq (zQ 3) (zB 22)) [(jX (jC [(jZ Op2.add (zQ 4) (zX 1)),(zQ 5),(zQ 6),(zK (zB 34) [(zQ 7),(jZ Op2.sub (zK (zB 39) [(zQ 7)]) (zA (zQ 1) (zX 1))),(zQ 5)])]))] []),
    (wB (zD OpC.eq (zQ 3) (zB 23)) [(jX (jC [(jZ Op2.add (zQ 4) (zX 1)),(zQ 5),(zK (zB 34) [(zQ 6),(jZ Op2.sub (zA (zQ 1) (zX 1)) (zX 1)),(jC [(zA (zQ 7) (jZ Op2.sub (zK (zB 39) [(zQ 7)]) (zA (zQ 1) (zX 1)))),(zQ 5)])]),(zQ 7)]))] []),
    (wB (zD OpC.eq (zQ 3) (zB 24)) [(zU (zC 9 false) (ZK (zQ 0) 10 [(zA (zQ 6) (jZ Op2.sub (zA (zQ 1) (zX 1)) (zX 1))),(zQ 5)])),
    (jX (n_ite (zD OpC.is (zQ 9) jV) jV (jC [(jZ Op2.add (zQ 4) (zX 1)),(zQ 9),(zQ 6),(zQ 7)])))] []),
    (wB (zD OpC.eq (zQ 3) (zB 25)) [(jX (ZK (zQ 0) 11 [(zQ 1),(zQ 2)]))] []),
    (wB (zD OpC.eq (zQ 3) (zB 26)) [(ZX (n_meth (jU (zQ 0) Fld.waiting) Me.append [(jC [(zA (zQ 1) (zX 2)),(zQ 5),(zQ 6),(zQ 7)])])),
    (jX (jC [(zA (zQ 1) (zX 1)),(zQ 5),(zQ 6),(zQ 7)]))] []),
    (wB (zD OpC.eq (zQ 3) (zB 27)) [(jX (jC [(zA (zQ 1) (zX 1)),(zQ 5),(zQ 6),(zQ 7)]))] []),
    (jX (ZK (zQ 0) 12 [(zQ 1),(zQ 2)]))]
noncomputable def f_Search_takes:IFn:=IFn.mk [[115,101,108,102],[115,116,101,112],[99,111,100,101],[105,115,95,105,110]] 3 [(wB (zD OpC.eq (zA (zQ 1) (zX 0)) (zB 17)) [(jX (n_not (zK (zB 1) [(zQ 2)])))] []),
    (wB (zD OpC.eq (zA (zQ 1) (zX 0)) (zB 16)) [(jX (n_or [(zD OpC.eq (zA (zQ 1) (zX 1)) (zQ 2)),(ZH [(jU (zQ 0) Fld.ic),(zD OpC.eq (zK (zB 12) [(zA (zQ 1) (zX 1))]) (zK (zB 12) [(zQ 2)]))])]))] []),
    (zU (zC 3 false) (n_ite (jU (zQ 0) Fld.ic) (zK (zB 13) [(zA (zQ 1) (zX 1)),(zQ 2)]) (zK (zB 10) [(zA (zQ 1) (zX 1)),(zQ 2)]))),
    (jX (zD OpC.ne (zQ 3) (zA (zQ 1) (zX 2))))]
noncomputable def f_Search_stands:IFn:=IFn.mk [[115,101,108,102],[115,116,101,112],[97,116],[116,101,120,116],[105,115,95,98,101,104,105,110,100],[105,115,95,97,104,101,97,100]] 3 [(zU (zC 3 false) (jU (zQ 0) Fld.text)),
    (wB (zD OpC.eq (zA (zQ 1) (zX 0)) (zB 19)) [(jX (n_or [(zD OpC.eq (zQ 2) (zX 0)),(ZH [(jU (zQ 0) Fld.ml),(zK (zB 1) [(zK (zB 42) [(zA (zQ 3) (jZ Op2.sub (zQ 2) (zX 1)))])])])]))] []),
    (wB (zD OpC.eq (zA (zQ 1) (zX 0)) (zB 20)) [(jX (n_or [(zD OpC.eq (zQ 2) (zK (zB 39) [(zQ 3)])),(ZH [(jU (zQ 0) Fld.ml),(zK (zB 1) [(zK (zB 42) [(zA (zQ 3) (zQ 2))])])])]))] []),
    (zU (zC 4 false) (ZH [(zD OpC.gt (zQ 2) (zX 0)),(zK (zB 11) [(zK (zB 42) [(zA (zQ 3) (jZ Op2.sub (zQ 2) (zX 1)))])])])),
    (zU (zC 5 false) (ZH [(zD OpC.lt (zQ 2) (zK (zB 39) [(zQ 3)])),(zK (zB 11) [(zK (zB 42) [(zA (zQ 3) (zQ 2))])])])),
    (jX (zD OpC.ne (zD OpC.ne (zQ 4) (zQ 5)) (zA (zQ 1) (zX 1))))]
noncomputable def f_Search_again:IFn:=IFn.mk [[115,101,108,102],[103,114,111,117,112],[97,116],[101,110,100],[111,110,101],[111,116,104,101,114]] 3 [(wB (zD OpC.is (zQ 1) jV) [(jX (zQ 2))] []),
    (zU (zC 3 false) (jZ Op2.sub (jZ Op2.add (zQ 2) (zA (zQ 1) (zX 1))) (zA (zQ 1) (zX 0)))),
    (wB (zD OpC.gt (zQ 3) (zK (zB 39) [(jU (zQ 0) Fld.text)])) [(jX jV)] []),
    (s_for (t_tup [(zC 4 false),(zC 5 false)]) (i_zip (n_slc (jU (zQ 0) Fld.text) (some (zA (zQ 1) (zX 0))) (some (zA (zQ 1) (zX 1)))) (n_slc (jU (zQ 0) Fld.text) (some (zQ 2)) (some (zQ 3)))) [(wB (ZH [(zD OpC.ne (zQ 4) (zQ 5)),(n_not (ZH [(jU (zQ 0) Fld.ic),(zD OpC.eq (zK (zB 12) [(zK (zB 42) [(zQ 4)])]) (zK (zB 12) [(zK (zB 42) [(zQ 5)])]))]))]) [(jX jV)] [])]),
    (jX (zQ 3))]
noncomputable def f_Search_look:IFn:=IFn.mk [[115,101,108,102],[115,116,101,112],[115,116,97,116,101],[112,99],[97,116],[103,114,111,117,112,115],[108,111,111,112,115],[102,111,117,110,100]] 3 [(zU (t_tup [(zC 3 false),(zC 4 false),(zC 5 false),(zC 6 false)]) (zQ 2)),
    (zU (zC 7 false) (ZK (zQ 0) 6 [(jZ Op2.add (zQ 3) (zX 1)),(zQ 4),(zQ 5),(zQ 6)])),
    (wB (zA (zQ 1) (zX 1)) [(jX (n_ite (zD OpC.is (zQ 7) jV) (jC [(zA (zQ 1) (zX 2)),(zQ 4),(zQ 5),(zQ 6)]) jV))] []),
    (jX (n_ite (zD OpC.is (zQ 7) jV) jV (jC [(zA (zQ 1) (zX 2)),(zQ 4),(zA (zQ 7) (zX 1)),(zQ 6)])))]
noncomputable def f_Search_repeat:IFn:=IFn.mk [[115,101,108,102],[115,116,101,112],[115,116,97,116,101],[112,99],[97,116],[103,114,111,117,112,115],[108,111,111,112,115],[99,111,117,110,116],[98,101,103,105,110],[108,101,97,115,116],[109,111,115,116],[105,115,95,108,97,122,121],[102,105,114,115,116],[98,101,104,105,110,100],[111,117,116],[108,101,97,118,101],[110,117,109,98,101,114],[111,110,99,101]] 3 [(zU (t_tup [(zC 3 false),(zC 4 false),(zC 5 false),(zC 6 false)]) (zQ 2)),
    (wB (zD OpC.eq (zA (zQ 1) (zX 0)) (zB 28)) [(jX (jC [(jZ Op2.add (zQ 3) (zX 1)),(zQ 4),(zQ 5),(zK (zB 34) [(zQ 6),(zA (zQ 1) (zX 1)),(jC [(zX 0),(zQ 4)])])]))] []),
    (zU (t_tup [(zC 7 false),(zC 8 false)]) (zA (zQ 6) (zA (zQ 1) (zX 1)))),
    (wB (zD OpC.eq (zA (zQ 1) (zX 0)) (zB 30)) [(wB (ZH [(zD OpC.ge (zQ 7) (zA (zQ 1) (zX 2))),(zD OpC.eq (zQ 8) (zQ 4))]) [(jX jV)] []),
    (jX (jC [(zA (zQ 1) (zX 3)),(zQ 4),(zQ 5),(zK (zB 34) [(zQ 6),(zA (zQ 1) (zX 1)),(jC [(jZ Op2.add (zQ 7) (zX 1)),(zQ 4)])])]))] []),
    (zU (t_tup [(zC 9 false),(zC 10 false),(zC 11 false),(zC 12 false),(zC 13 false),(zC 14 false)]) (n_slc (zQ 1) (some (zX 2)) none)),
    (zU (zC 15 false) (jC [(zQ 14),(zQ 4),(zQ 5),(zQ 6)])),
    (wB (ZH [(zD OpC.isNot (zQ 10) jV),(zD OpC.ge (zQ 7) (zQ 10))]) [(jX (zQ 15))] []),
    (s_for (zC 16 false) (i_range2 (zQ 12) (zQ 13)) [(zU (zC 5 false) (zK (zB 34) [(zQ 5),(jZ Op2.sub (zQ 16) (zX 1)),jV]))]),
    (zU (zC 17 false) (jC [(jZ Op2.add (zQ 3) (zX 1)),(zQ 4),(zQ 5),(zK (zB 34) [(zQ 6),(zA (zQ 1) (zX 1)),(jC [(zQ 7),(zQ 4)])])])),
    (wB (zD OpC.lt (zQ 7) (zQ 9)) [(jX (zQ 17))] []),
    (ZX (n_meth (jU (zQ 0) Fld.waiting) Me.append [(n_ite (zQ 11) (zQ 17) (zQ 15))])),
    (jX (n_ite (zQ 11) (zQ 15) (zQ 17)))]
noncomputable def f_match_code:IFn:=IFn.mk [[99,111,100,101],[116,101,120,116],[97,116],[99,111,117,110,116],[105,103,110,111,114,101,115,95,99,97,115,101],[105,115,95,109,117,108,116,105,108,105,110,101],[108,105,109,105,116,115],[115,116,101,112,115],[108,111,111,112,115],[115,101,97,114,99,104],[102,111,117,110,100]] 7 [(zU (t_tup [(zC 7 false),(zC 8 false)]) (zQ 0)),
    (zU (zC 9 false) (zK (zB 35) [(zQ 7),(zQ 1),(zQ 4),(zQ 5),(zQ 6)])),
    (zU (zC 10 false) (ZK (zQ 9) 6 [(zX 0),(zQ 2),(jZ Op2.mul (jC [jV]) (zQ 3)),(jZ Op2.add (jZ Op2.mul (jC [(jC [(zX 0),(zX 0)])]) (zQ 8)) (jZ Op2.mul (jC [(zX 0)]) (jZ Op2.add (zQ 3) (zX 1))))])),
    (jX (n_ite (zD OpC.is (zQ 10) jV) jV (jC [(zA (zQ 10) (zX 0)),(zK (zB 46) [(zA (zQ 10) (zX 1))])])))]
noncomputable def f_match_at:IFn:=IFn.mk [[116,114,101,101],[116,101,120,116],[97,116],[102,108,97,103,115],[108,105,109,105,116,115]] 5 [(jX (zK (zB 36) [(zK (zB 33) [(zQ 0)]),(zQ 1),(zQ 2),(zK (zB 38) [(zQ 0)]),(zD OpC.isIn (jA [105]) (zQ 3)),(zD OpC.isIn (jA [109]) (zQ 3)),(zQ 4)]))]
noncomputable def f_group_count:IFn:=IFn.mk [[116,114,101,101],[102,111,117,110,100],[119,97,105,116,105,110,103],[112,97,114,116]] 1 [(s_swap [1,2] [(zX 0),(n_lst true [(zQ 0)])]),
    (s_while (zD OpC.gt (zK (zB 39) [(zQ 2)]) (zX 0)) [(zU (zC 3 false) (n_meth (zQ 2) Me.pop [])),
    (wB (zK (zB 45) [(zQ 3),(zB 47)]) [(wB (ZH [(zD OpC.eq (zK (zB 39) [(zQ 3)]) (zX 3)),(zD OpC.eq (zA (zQ 3) (zX 0)) (jA [103,114,111,117,112])),(zD OpC.isNot (zA (zQ 3) (zX 1)) jV)]) [(s_aug 1 Op2.add (zX 1))] []),
    (ZX (n_meth (zQ 2) Me.extend [(zQ 3)]))] [])]),
    (jX (zQ 1))]
noncomputable def f_law_deal:IFn:=IFn.mk [[115,99,114,105,112,116],[110,117,109,98,101,114,115],[115,101,101,100],[110,117,109,98,101,114]] 1 [(s_acomp 1 [[110,117,109,98,101,114]] (jZ Op2.mod (zK (zB 40) [(zK (zB 41) [(zQ 0)])]) (zX 1000003)) (zC 0 false) (i_of (n_slc (zQ 0) none (some (zX 40)))) [] []),
    (zU (zC 2 false) (zX 51)),
    (s_for (zC 3 false) (i_of (zQ 1)) [(zU (zC 2 false) (jZ Op2.mod (jZ Op2.add (jZ Op2.add (jZ Op2.mul (zQ 2) (zX 69621)) (zQ 3)) (zX 9)) (zX 2147483647)))]),
    (jX (n_lst true [(zQ 1),(zX 0),(zQ 2),(zX 0)]))]
noncomputable def f_law_take:IFn:=IFn.mk [[100,101,97,108],[109,97,110,121]] 2 [(wB (zD OpC.lt (zA (zQ 0) (zX 1)) (zK (zB 39) [(zA (zQ 0) (zX 0))])) [(zU (t_sub (zQ 0) (zX 1)) (jZ Op2.add (zA (zQ 0) (zX 1)) (zX 1))),
    (jX (jZ Op2.mod (zA (zA (zQ 0) (zX 0)) (jZ Op2.sub (zA (zQ 0) (zX 1)) (zX 1))) (zQ 1)))] []),
    (zU (t_sub (zQ 0) (zX 2)) (jZ Op2.mod (jZ Op2.add (jZ Op2.mul (zA (zQ 0) (zX 2)) (zX 69621)) (zX 4099)) (zX 2147483647))),
    (jX (jZ Op2.mod (jZ Op2.fdiv (zA (zQ 0) (zX 2)) (zX 64)) (zQ 1)))]
noncomputable def f_law_seq:IFn:=IFn.mk [[100,101,97,108],[100,101,101,112]] 2 [(jX (jC [(jA [115,101,113]),(zK (zB 47) [(n_comp [[116,117,114,110],[100,101,97,108],[100,101,101,112]] (zK (zB 57) [(zQ 1),(zQ 2)]) (zC 0 false) (i_range1 (jZ Op2.add (zX 1) (zK (zB 53) [(zQ 0),(zX 2)]))) [] [(0,1),(1,2)])])]))]
noncomputable def f_law_plain:IFn:=IFn.mk [[100,101,97,108],[107,105,110,100]] 1 [(zU (zC 1 false) (zK (zB 53) [(zQ 0),(zX 8)])),
    (wB (zD OpC.lt (zQ 1) (zX 4)) [(jX (jC [(jA [99,104,97,114]),(zA (n_lst false [(zX 97),(zX 98),(zX 97),(zX 65)]) (zQ 1))]))] []),
    (wB (zD OpC.eq (zQ 1) (zX 4)) [(jX (jC [(jA [97,110,121])]))] []),
    (wB (zD OpC.eq (zQ 1) (zX 5)) [(jX (jC [(jA [99,108,97,115,115]),(jC [(jC [(zX 97),(zX 97)]),(jC [(zX 99),(zX 99)])]),(zD OpC.eq (zK (zB 53) [(zQ 0),(zX 2)]) (zX 1))]))] []),
    (jX (zA (n_lst false [(jC [(jA [115,116,97,114,116])]),(jC [(jA [101,110,100])]),(jC [(jA [98,111,117,110,100,97,114,121]),(n_bool false)]),(jC [(jA [98,111,117,110,100,97,114,121]),(n_bool true)])]) (zK (zB 53) [(zQ 0),(zX 4)])))]
noncomputable def f_law_group:IFn:=IFn.mk [[100,101,97,108],[100,101,101,112],[110,117,109,98,101,114]] 2 [(wB (zD OpC.eq (zK (zB 53) [(zQ 0),(zX 3)]) (zX 2)) [(jX (jC [(jA [103,114,111,117,112]),jV,(zK (zB 54) [(zQ 0),(jZ Op2.sub (zQ 1) (zX 1))])]))] []),
    (zU (t_sub (zQ 0) (zX 3)) (jZ Op2.add (zA (zQ 0) (zX 3)) (zX 1))),
    (zU (zC 2 false) (zA (zQ 0) (zX 3))),
    (wB (zD OpC.eq (zK (zB 53) [(zQ 0),(zX 2)]) (zX 0)) [(jX (jC [(jA [103,114,111,117,112]),(zQ 2),(zK (zB 54) [(zQ 0),(jZ Op2.sub (zQ 1) (zX 1))])]))] []),
    (jX (jC [(jA [103,114,111,117,112]),(zQ 2),(jC [(jA [97,108,116]),(jC [(zK (zB 54) [(zQ 0),(jZ Op2.sub (zQ 1) (zX 1))]),(zK (zB 54) [(zQ 0),(jZ Op2.sub (zQ 1) (zX 1))])])])]))]
noncomputable def f_law_term:IFn:=IFn.mk [[100,101,97,108],[100,101,101,112],[107,105,110,100],[102,105,114,115,116],[108,101,97,115,116],[98,111,117,110,100],[109,111,115,116],[105,115,95,108,97,122,121],[116,101,114,109]] 2 [(zU (zC 2 false) (n_ite (zD OpC.gt (zQ 1) (zX 0)) (zK (zB 53) [(zQ 0),(zX 9)]) (zX 0))),
    (wB (ZH [(zD OpC.eq (zQ 2) (zX 4)),(zD OpC.gt (zA (zQ 0) (zX 3)) (zX 0))]) [(jX (jC [(jA [98,97,99,107]),(jZ Op2.add (zX 1) (zK (zB 53) [(zQ 0),(zA (zQ 0) (zX 3))]))]))] []),
    (wB (zD OpC.eq (zQ 2) (zX 5)) [(jX (jC [(jA [108,111,111,107]),(zD OpC.eq (zK (zB 53) [(zQ 0),(zX 2)]) (zX 1)),(zK (zB 54) [(zQ 0),(jZ Op2.sub (zQ 1) (zX 1))])]))] []),
    (wB (zD OpC.isIn (zQ 2) (jC [(zX 3),(zX 6)])) [(jX (zK (zB 56) [(zQ 0),(zQ 1)]))] []),
    (wB (zD OpC.isIn (zQ 2) (jC [(zX 7),(zX 8)])) [(s_swap [3,4] [(jZ Op2.add (zA (zQ 0) (zX 3)) (zX 1)),(zK (zB 53) [(zQ 0),(zX 2)])]),
    (zU (zC 5 false) (n_ite (zD OpC.gt (zQ 1) (zX 1)) (n_lst false [jV,(zQ 4),(jZ Op2.add (zQ 4) (zX 1)),jV]) (n_lst false [(zQ 4),(jZ Op2.add (zQ 4) (zX 1)),(zQ 4),(jZ Op2.add (zQ 4) (zX 1))]))),
    (s_swap [6,7] [(zA (zQ 5) (zK (zB 53) [(zQ 0),(zX 4)])),(zD OpC.eq (zK (zB 53) [(zQ 0),(zX 2)]) (zX 1))]),
    (zU (zC 8 false) (n_ite (zD OpC.eq (zK (zB 53) [(zQ 0),(zX 2)]) (zX 0)) (zK (zB 56) [(zQ 0),(zQ 1)]) (zK (zB 55) [(zQ 0)]))),
    (jX (jC [(jA [114,101,112,101,97,116]),(zQ 4),(zQ 6),(zQ 7),(zQ 8),(zQ 3),(jZ Op2.add (zA (zQ 0) (zX 3)) (zX 1))]))] []),
    (jX (zK (zB 55) [(zQ 0)]))]
noncomputable def f_law_same:IFn:=IFn.mk [[111,110,101],[111,116,104,101,114],[102,108,97,103,115]] 3 [(jX (n_or [(zD OpC.eq (zQ 0) (zQ 1)),(ZH [(zD OpC.isIn (jA [105]) (zQ 2)),(zD OpC.eq (n_meth (zQ 0) Me.upper []) (n_meth (zQ 1) Me.upper []))])]))]
noncomputable def f_law_is_word:IFn:=IFn.mk [[116,101,120,116],[97,116]] 2 [(jX (ZH [(n_cmp2 OpC.le OpC.lt (zX 0) (zQ 1) (zK (zB 39) [(zQ 0)])),(n_or [(n_meth (zA (zQ 0) (zQ 1)) Me.isalnum []),(zD OpC.eq (zA (zQ 0) (zQ 1)) (jA [95]))])]))]
noncomputable def f_law_stands:IFn:=IFn.mk [[116,114,101,101],[116,101,120,116],[97,116],[102,108,97,103,115]] 4 [(wB (zD OpC.eq (zA (zQ 0) (zX 0)) (jA [115,116,97,114,116])) [(jX (n_or [(zD OpC.eq (zQ 2) (zX 0)),(ZH [(zD OpC.isIn (jA [109]) (zQ 3)),(zD OpC.eq (zA (zQ 1) (jZ Op2.sub (zQ 2) (zX 1))) (jA [10]))])]))] []),
    (wB (zD OpC.eq (zA (zQ 0) (zX 0)) (jA [101,110,100])) [(jX (n_or [(zD OpC.eq (zQ 2) (zK (zB 39) [(zQ 1)])),(ZH [(zD OpC.isIn (jA [109]) (zQ 3)),(zD OpC.eq (zA (zQ 1) (zQ 2)) (jA [10]))])]))] []),
    (jX (zD OpC.ne (zD OpC.ne (zK (zB 59) [(zQ 1),(jZ Op2.sub (zQ 2) (zX 1))]) (zK (zB 59) [(zQ 1),(zQ 2)])) (zA (zQ 0) (zX 1))))]
noncomputable def f_law_takes:IFn:=IFn.mk [[116,114,101,101],[115,105,103,110],[102,108,97,103,115]] 3 [(wB (zD OpC.eq (zA (zQ 0) (zX 0)) (jA [97,110,121])) [(jX (zD OpC.ne (zQ 1) (jA [10])))] []),
    (wB (zD OpC.eq (zA (zQ 0) (zX 0)) (jA [99,104,97,114])) [(jX (zK (zB 58) [(zQ 1),(zK (zB 43) [(zA (zQ 0) (zX 1))]),(zQ 2)]))] []),
    (jX (zD OpC.ne (zD OpC.ne (n_comp [[111,110,101],[102,108,97,103,115],[115,105,103,110]] (zQ 0) (zC 0 false) (i_of (jA [97,99])) [(zK (zB 58) [(zQ 2),(zQ 0),(zQ 1)])] [(2,1),(1,2)]) (n_lst false [])) (zA (zQ 0) (zX 2))))]
noncomputable def f_law_all:IFn:=IFn.mk [[116,114,101,101,115],[116,101,120,116],[97,116],[103,114,111,117,112,115],[102,108,97,103,115],[98,101,104,105,110,100]] 6 [(wB (zD OpC.eq (zK (zB 39) [(zQ 0)]) (zX 0)) [(jX (zK (zQ 5) [(zQ 2),(zQ 3)]))] []),
    (jX (zK (zB 66) [(zA (zQ 0) (zX 0)),(zQ 1),(zQ 2),(zQ 3),(zQ 4),(n_lam 0 [[101,110,100],[109,101,116],[98,101,104,105,110,100],[102,108,97,103,115],[116,101,120,116],[116,114,101,101,115]] [(5,2),(4,3),(1,4),(0,5)])]))]
noncomputable def f_law_again:IFn:=IFn.mk [[116,114,101,101],[116,101,120,116],[97,116],[103,114,111,117,112,115],[102,108,97,103,115],[98,101,104,105,110,100],[99,111,117,110,116],[108,101,97,115,116],[109,111,115,116],[105,115,95,108,97,122,121],[116,101,114,109],[102,105,114,115,116],[108,97,115,116],[111,110,99,101],[99,108,101,97,114,101,100],[102,111,117,110,100]] 7 [(zU (t_tup [(zC 7 true),(zC 8 false),(zC 9 false),(zC 10 false),(zC 11 true),(zC 12 true)]) (n_slc (zQ 0) (some (zX 1)) none)),
    (wB (ZH [(zD OpC.isNot (zQ 8) jV),(zD OpC.ge (zQ 6) (zQ 8))]) [(jX (zK (zQ 5) [(zQ 2),(zQ 3)]))] []),
    (s_defn 13 1 [[101,110,100],[109,101,116],[97,116],[98,101,104,105,110,100],[99,111,117,110,116],[102,108,97,103,115],[108,101,97,115,116],[116,101,120,116],[116,114,101,101]] [(2,2),(5,3),(6,4),(4,5),(7,6),(1,7),(0,8)]),
    (s_acomp 14 [[110,117,109,98,101,114],[103,114,111,117,112],[102,105,114,115,116],[108,97,115,116]] (n_ite (n_cmp2 OpC.le OpC.lt (zQ 2) (jZ Op2.add (zQ 0) (zX 1)) (zQ 3)) jV (zQ 1)) (t_tup [(zC 0 false),(zC 1 false)]) (i_enum (zQ 3)) [] [(11,2),(12,3)]),
    (wB (ZH [(zD OpC.ge (zQ 6) (zQ 7)),(zQ 9)]) [(zU (zC 15 false) (zK (zQ 5) [(zQ 2),(zQ 3)])),
    (wB (zD OpC.isNot (zQ 15) jV) [(jX (zQ 15))] [])] []),
    (zU (zC 15 false) (zK (zB 66) [(zQ 10),(zQ 1),(zQ 2),(zQ 14),(zQ 4),(zQ 13)])),
    (wB (ZH [(zD OpC.is (zQ 15) jV),(zD OpC.ge (zQ 6) (zQ 7)),(n_not (zQ 9))]) [(jX (zK (zQ 5) [(zQ 2),(zQ 3)]))] []),
    (jX (zQ 15))]
noncomputable def f_law_behind_group:IFn:=IFn.mk [[103,114,111,117,112,115],[110,117,109,98,101,114],[98,101,103,105,110],[101,110,100]] 4 [(jX (jZ Op2.add (jZ Op2.add (n_slc (zQ 0) none (some (jZ Op2.sub (zQ 1) (zX 1)))) (n_lst false [(jC [(zQ 2),(zQ 3)])])) (n_slc (zQ 0) (some (zQ 1)) none)))]
noncomputable def f_law_met_again:IFn:=IFn.mk [[116,114,101,101],[116,101,120,116],[97,116],[103,114,111,117,112,115],[102,108,97,103,115],[98,101,104,105,110,100],[103,114,111,117,112],[119,111,114,100],[104,101,114,101]] 6 [(zU (zC 6 false) (zA (zQ 3) (jZ Op2.sub (zA (zQ 0) (zX 1)) (zX 1)))),
    (zU (zC 7 false) (n_ite (zD OpC.is (zQ 6) jV) (jA []) (n_slc (zQ 1) (some (zA (zQ 6) (zX 0))) (some (zA (zQ 6) (zX 1)))))),
    (zU (zC 8 false) (n_slc (zQ 1) (some (zQ 2)) (some (jZ Op2.add (zQ 2) (zK (zB 39) [(zQ 7)]))))),
    (wB (n_or [(zD OpC.lt (zK (zB 39) [(zQ 8)]) (zK (zB 39) [(zQ 7)])),(zD OpC.ne (n_comp [[111,110,101],[111,116,104,101,114],[102,108,97,103,115]] (zX 1) (t_tup [(zC 0 false),(zC 1 false)]) (i_zip (zQ 7) (zQ 8)) [(n_not (zK (zB 58) [(zQ 0),(zQ 1),(zQ 2)]))] [(4,2)]) (n_lst false []))]) [(jX jV)] []),
    (jX (zK (zQ 5) [(jZ Op2.add (zQ 2) (zK (zB 39) [(zQ 7)])),(zQ 3)]))]
noncomputable def f_law_meets:IFn:=IFn.mk [[116,114,101,101],[116,101,120,116],[97,116],[103,114,111,117,112,115],[102,108,97,103,115],[98,101,104,105,110,100],[107,105,110,100],[102,111,117,110,100],[110,117,109,98,101,114],[105,115,95,109,101,116]] 6 [(zU (zC 6 false) (zA (zQ 0) (zX 0))),
    (wB (zD OpC.eq (zQ 6) (jA [115,101,113])) [(jX (zK (zB 62) [(zA (zQ 0) (zX 1)),(zQ 1),(zQ 2),(zQ 3),(zQ 4),(zQ 5)]))] []),
    (wB (zD OpC.eq (zQ 6) (jA [97,108,116])) [(zU (zC 7 false) (zK (zB 66) [(zA (zA (zQ 0) (zX 1)) (zX 0)),(zQ 1),(zQ 2),(zQ 3),(zQ 4),(zQ 5)])),
    (jX (n_ite (zD OpC.is (zQ 7) jV) (zK (zB 66) [(zA (zA (zQ 0) (zX 1)) (zX 1)),(zQ 1),(zQ 2),(zQ 3),(zQ 4),(zQ 5)]) (zQ 7)))] []),
    (wB (zD OpC.eq (zQ 6) (jA [103,114,111,117,112])) [(wB (zD OpC.is (zA (zQ 0) (zX 1)) jV) [(jX (zK (zB 66) [(zA (zQ 0) (zX 2)),(zQ 1),(zQ 2),(zQ 3),(zQ 4),(zQ 5)]))] []),
    (zU (zC 8 true) (zA (zQ 0) (zX 1))),
    (jX (zK (zB 66) [(zA (zQ 0) (zX 2)),(zQ 1),(zQ 2),(zQ 3),(zQ 4),(n_lam 2 [[101,110,100],[109,101,116],[97,116],[98,101,104,105,110,100],[110,117,109,98,101,114]] [(2,2),(5,3),(8,4)])]))] []),
    (wB (zD OpC.eq (zQ 6) (jA [108,111,111,107])) [(zU (zC 7 false) (zK (zB 66) [(zA (zQ 0) (zX 2)),(zQ 1),(zQ 2),(zQ 3),(zQ 4),(n_lam 3 [[101,110,100],[109,101,116]] [])])),
    (wB (zA (zQ 0) (zX 1)) [(jX (n_ite (zD OpC.is (zQ 7) jV) (zK (zQ 5) [(zQ 2),(zQ 3)]) jV))] []),
    (jX (n_ite (zD OpC.is (zQ 7) jV) jV (zK (zQ 5) [(zQ 2),(zA (zQ 7) (zX 1))])))] []),
    (wB (zD OpC.eq (zQ 6) (jA [98,97,99,107])) [(jX (zK (zB 65) [(zQ 0),(zQ 1),(zQ 2),(zQ 3),(zQ 4),(zQ 5)]))] []),
    (wB (zD OpC.eq (zQ 6) (jA [114,101,112,101,97,116])) [(jX (zK (zB 63) [(zQ 0),(zQ 1),(zQ 2),(zQ 3),(zQ 4),(zQ 5),(zX 0)]))] []),
    (wB (zD OpC.isIn (zQ 6) (jC [(jA [99,104,97,114]),(jA [97,110,121]),(jA [99,108,97,115,115])])) [(zU (zC 9 false) (ZH [(zD OpC.lt (zQ 2) (zK (zB 39) [(zQ 1)])),(zK (zB 61) [(zQ 0),(zA (zQ 1) (zQ 2)),(zQ 4)])])),
    (jX (n_ite (zQ 9) (zK (zQ 5) [(jZ Op2.add (zQ 2) (zX 1)),(zQ 3)]) jV))] []),
    (jX (n_ite (zK (zB 60) [(zQ 0),(zQ 1),(zQ 2),(zQ 4)]) (zK (zQ 5) [(zQ 2),(zQ 3)]) jV))]
noncomputable def f_law:IFn:=IFn.mk [[115,99,114,105,112,116],[100,101,97,108],[116,114,101,101],[99,111,117,110,116],[116,101,120,116],[102,108,97,103,115],[97,116],[100,117,101]] 1 [(zU (zC 1 true) (zK (zB 52) [(zQ 0)])),
    (zU (zC 2 false) (zK (zB 54) [(zQ 1),(zX 2)])),
    (zU (zC 3 false) (zA (zQ 1) (zX 3))),
    (zU (zC 4 false) (n_meth (jA []) Me.join [(n_comp [[116,117,114,110],[100,101,97,108]] (zA (jA [97,98,10,65,97,98]) (zK (zB 53) [(zQ 1),(zX 6)])) (zC 0 false) (i_range1 (jZ Op2.add (zX 1) (zK (zB 53) [(zQ 1),(zX 4)]))) [] [(1,1)])])),
    (zU (zC 5 false) (zA (n_lst false [(jA []),(jA [105]),(jA [109]),(jA [105,109])]) (zK (zB 53) [(zQ 1),(zX 4)]))),
    (s_for (zC 6 false) (i_range1 (jZ Op2.add (zK (zB 39) [(zQ 4)]) (zX 1))) [(zU (zC 7 false) (zK (zB 66) [(zQ 2),(zQ 4),(zQ 6),(jZ Op2.mul (n_lst false [jV]) (zQ 3)),(zQ 5),(n_lam 4 [[101,110,100],[109,101,116]] [])])),
    (wB (zD OpC.ne (zK (zB 37) [(zQ 2),(zQ 4),(zQ 6),(zQ 5),(zK (zB 15) [])]) (zQ 7)) [(jX (n_bool false))] [])]),
    (jX (n_bool true))]
noncomputable def tabs:Tabs:={ gnames:=[[76,73,78,69,95,69,78,68,83],[105,115,95,108,105,110,101,95,101,110,100],[71,82,69,65,84],[84,85,82,78,83],[71,82,69,65,84,95,65,76,79,78,69],[83,77,65,76,76,95,65,76,79,78,69],[71,82,69,65,84,95,87,73,68,69],[115,109,97,108,108,95,99,111,100,101],[103,114,101,97,116,95,99,111,100,101],[87,79,82,68,83],[104,97,115],[105,115,95,119,111,114,100],[99,97,110,111,110],[104,97,115,95,102,111,108,100,101,100],[74,83,70,97,105,108],[76,105,109,105,116,115],[67,72,65,82],[65,78,89],[67,76,65,83,83],[83,84,65,82,84],[69,78,68],[66,79,85,78,68,65,82,89],[79,80,69,78],[67,76,79,83,69],[66,65,67,75],[76,79,79,75],[83,80,76,73,84],[74,85,77,80],[76,79,79,80],[72,69,65,68],[84,65,73,76],[77,69,84],[80,97,116,116,101,114,110,67,111,100,101],[112,97,116,116,101,114,110,95,99,111,100,101],[99,104,97,110,103,101,100],[83,101,97,114,99,104],[109,97,116,99,104,95,99,111,100,101],[109,97,116,99,104,95,97,116],[103,114,111,117,112,95,99,111,117,110,116],[108,101,110],[97,98,115],[105,110,116],[111,114,100],[99,104,114],[97,110,121],[105,115,105,110,115,116,97,110,99,101],[108,105,115,116],[116,117,112,108,101],[114,97,110,103,101],[122,105,112],[101,110,117,109,101,114,97,116,101],[109,105,110],[95,108,97,119,95,100,101,97,108],[95,108,97,119,95,116,97,107,101],[95,108,97,119,95,115,101,113],[95,108,97,119,95,112,108,97,105,110],[95,108,97,119,95,103,114,111,117,112],[95,108,97,119,95,116,101,114,109],[95,108,97,119,95,115,97,109,101],[95,108,97,119,95,105,115,95,119,111,114,100],[95,108,97,119,95,115,116,97,110,100,115],[95,108,97,119,95,116,97,107,101,115],[95,108,97,119,95,97,108,108],[95,108,97,119,95,97,103,97,105,110],[95,108,97,119,95,98,101,104,105,110,100,95,103,114,111,117,112],[95,108,97,119,95,109,101,116,95,97,103,97,105,110],[95,108,97,119,95,109,101,101,116,115],[108,97,119]],mnames:=[[101,109,105,116],[112,117,116],[112,108,97,105,110],[112,117,116,95,99,104,111,105,99,101],[112,117,116,95,103,114,111,117,112],[112,117,116,95,114,101,112,101,97,116],[114,117,110],[97,100,118,97,110,99,101],[116,97,107,101,115],[115,116,97,110,100,115],[97,103,97,105,110],[108,111,111,107],[114,101,112,101,97,116]] }
noncomputable def mthL:Cls→Nat→Option Nat
  | .pcode,i=>([some 10,some 11,some 12,some 13,some 14,some 15,none,none,none,none,none,none,none][i]?).join
  | .search,i=>([none,none,none,none,none,none,some 19,some 20,some 21,some 22,some 23,some 24,some 25][i]?).join
  | _,_=>none
noncomputable def iniL:Cls→Option Nat
  | .fail=>none
  | .limits=>some 8
  | .pcode=>some 9
  | .search=>some 18
noncomputable def valT (k:Nat):Option AV:=(cond (Nat.ble 34 k) (cond (Nat.ble 51 k) (cond (Nat.ble 60 k) (cond (Nat.ble 64 k) (cond (Nat.ble 66 k) (cond (Nat.ble 67 k) (cond (Nat.ble 68 k) none (some (.fn 44))) (some (.fn 43))) (cond (Nat.ble 65 k) (some (.fn 42)) (some (.fn 41)))) (cond (Nat.ble 62 k) (cond (Nat.ble 63 k) (some (.fn 40)) (some (.fn 39))) (cond (Nat.ble 61 k) (some (.fn 38)) (some (.fn 37))))) (cond (Nat.ble 55 k) (cond (Nat.ble 57 k) (cond (Nat.ble 58 k) (cond (Nat.ble 59 k) (some (.fn 36)) (some (.fn 35))) (some (.fn 34))) (cond (Nat.ble 56 k) (some (.fn 33)) (some (.fn 32)))) (cond (Nat.ble 53 k) (cond (Nat.ble 54 k) (some (.fn 31)) (some (.fn 30))) (cond (Nat.ble 52 k) (some (.fn 29)) (some (.bi .min)))))) (cond (Nat.ble 42 k) (cond (Nat.ble 46 k) (cond (Nat.ble 48 k) (cond (Nat.ble 49 k) (cond (Nat.ble 50 k) (some (.bi .enumerate)) (some (.bi .zip))) (some (.bi .range))) (cond (Nat.ble 47 k) (some (.bi .tuple)) (some (.bi .list)))) (cond (Nat.ble 44 k) (cond (Nat.ble 45 k) (some (.bi .isinstance)) (some (.bi .any))) (cond (Nat.ble 43 k) (some (.bi .chr)) (some (.bi .ord))))) (cond (Nat.ble 38 k) (cond (Nat.ble 40 k) (cond (Nat.ble 41 k) (some (.bi .int)) (some (.bi .abs))) (cond (Nat.ble 39 k) (some (.bi .len)) (some (.fn 28)))) (cond (Nat.ble 36 k) (cond (Nat.ble 37 k) (some (.fn 27)) (some (.fn 26))) (cond (Nat.ble 35 k) (some (.cls .search)) (some (.fn 17))))))) (cond (Nat.ble 17 k) (cond (Nat.ble 25 k) (cond (Nat.ble 29 k) (cond (Nat.ble 31 k) (cond (Nat.ble 32 k) (cond (Nat.ble 33 k) (some (.fn 16)) (some (.cls .pcode))) (some (.int 15))) (cond (Nat.ble 30 k) (some (.int 14)) (some (.int 13)))) (cond (Nat.ble 27 k) (cond (Nat.ble 28 k) (some (.int 12)) (some (.int 11))) (cond (Nat.ble 26 k) (some (.int 10)) (some (.int 9))))) (cond (Nat.ble 21 k) (cond (Nat.ble 23 k) (cond (Nat.ble 24 k) (some (.int 8)) (some (.int 7))) (cond (Nat.ble 22 k) (some (.int 6)) (some (.int 5)))) (cond (Nat.ble 19 k) (cond (Nat.ble 20 k) (some (.int 4)) (some (.int 3))) (cond (Nat.ble 18 k) (some (.int 2)) (some (.int 1)))))) (cond (Nat.ble 8 k) (cond (Nat.ble 12 k) (cond (Nat.ble 14 k) (cond (Nat.ble 15 k) (cond (Nat.ble 16 k) (some (.int 0)) (some (.cls .limits))) (some (.cls .fail))) (cond (Nat.ble 13 k) (some (.fn 6)) (some (.fn 5)))) (cond (Nat.ble 10 k) (cond (Nat.ble 11 k) (some (.fn 4)) (some (.fn 3))) (cond (Nat.ble 9 k) (some (.tup [.tup [.int 48,.int 57],.tup [.int 65,.int 90],.tup [.int 95,.int 95],.tup [.int 97,.int 122]])) (some (.fn 2))))) (cond (Nat.ble 4 k) (cond (Nat.ble 6 k) (cond (Nat.ble 7 k) (some (.fn 1)) (some (.dct [(223,.str [83,83]),(329,.str [700,78]),(912,.str [921,776,769]),(944,.str [933,776,769]),(1415,.str [1333,1362])]))) (cond (Nat.ble 5 k) (some (.dct [(255,.int 376),(181,.int 924),(305,.int 73),(383,.int 83),(962,.int 931)])) (some (.dct [(376,.int 255),(304,.int 105)])))) (cond (Nat.ble 2 k) (cond (Nat.ble 3 k) (some (.lst [.tup [.int 256,.int 303],.tup [.int 306,.int 311],.tup [.int 313,.int 328],.tup [.int 330,.int 375],.tup [.int 377,.int 382],.tup [.int 984,.int 1007],.tup [.int 1120,.int 1153],.tup [.int 1162,.int 1215],.tup [.int 1232,.int 1319],.tup [.int 7680,.int 7829],.tup [.int 7840,.int 7935]])) (some (.lst [.tup [.int 65,.int 90,.int 32],.tup [.int 192,.int 214,.int 32],.tup [.int 216,.int 222,.int 32],.tup [.int 902,.int 902,.int 38],.tup [.int 904,.int 906,.int 37],.tup [.int 908,.int 908,.int 64],.tup [.int 910,.int 911,.int 63],.tup [.int 913,.int 929,.int 32],.tup [.int 931,.int 939,.int 32],.tup [.int 1024,.int 1039,.int 80],.tup [.int 1040,.int 1071,.int 32],.tup [.int 1329,.int 1366,.int 48]]))) (cond (Nat.ble 1 k) (some (.fn 0)) (some (.lst [.int 10,.int 13,.int 8232,.int 8233]))))))))
noncomputable def fnT (k:Nat):Option IFn:=(cond (Nat.ble 23 k) (cond (Nat.ble 34 k) (cond (Nat.ble 40 k) (cond (Nat.ble 43 k) (cond (Nat.ble 44 k) (cond (Nat.ble 45 k) none (some f_law)) (some f_law_meets)) (cond (Nat.ble 41 k) (cond (Nat.ble 42 k) (some f_law_met_again) (some f_law_behind_group)) (some f_law_again))) (cond (Nat.ble 37 k) (cond (Nat.ble 38 k) (cond (Nat.ble 39 k) (some f_law_all) (some f_law_takes)) (some f_law_stands)) (cond (Nat.ble 35 k) (cond (Nat.ble 36 k) (some f_law_is_word) (some f_law_same)) (some f_law_term)))) (cond (Nat.ble 28 k) (cond (Nat.ble 31 k) (cond (Nat.ble 32 k) (cond (Nat.ble 33 k) (some f_law_group) (some f_law_plain)) (some f_law_seq)) (cond (Nat.ble 29 k) (cond (Nat.ble 30 k) (some f_law_take) (some f_law_deal)) (some f_group_count))) (cond (Nat.ble 25 k) (cond (Nat.ble 26 k) (cond (Nat.ble 27 k) (some f_match_at) (some f_match_code)) (some f_Search_repeat)) (cond (Nat.ble 24 k) (some f_Search_look) (some f_Search_again))))) (cond (Nat.ble 11 k) (cond (Nat.ble 17 k) (cond (Nat.ble 20 k) (cond (Nat.ble 21 k) (cond (Nat.ble 22 k) (some f_Search_stands) (some f_Search_takes)) (some f_Search_advance)) (cond (Nat.ble 18 k) (cond (Nat.ble 19 k) (some f_Search_run) (some f_Search_init)) (some f_changed))) (cond (Nat.ble 14 k) (cond (Nat.ble 15 k) (cond (Nat.ble 16 k) (some f_pattern_code) (some f_PatternCode_put_repeat)) (some f_PatternCode_put_group)) (cond (Nat.ble 12 k) (cond (Nat.ble 13 k) (some f_PatternCode_put_choice) (some f_PatternCode_plain)) (some f_PatternCode_put)))) (cond (Nat.ble 5 k) (cond (Nat.ble 8 k) (cond (Nat.ble 9 k) (cond (Nat.ble 10 k) (some f_PatternCode_emit) (some f_PatternCode_init)) (some f_Limits_init)) (cond (Nat.ble 6 k) (cond (Nat.ble 7 k) (some f_JSFail_init) (some f_has_folded)) (some f_canon))) (cond (Nat.ble 2 k) (cond (Nat.ble 3 k) (cond (Nat.ble 4 k) (some f_is_word) (some f_has)) (some f_great_code)) (cond (Nat.ble 1 k) (some f_small_code) (some f_is_line_end))))))
noncomputable def GlT:Glo:=⟨valT,mthL,iniL⟩
end
section
set_option backward.match.sparseCases false
open PySem PySem.W PyProof.Rows PySem.Calls
noncomputable def fnAs:List Addr:=[22,57,64,76,83,90,95,109,130,151,158,165,172,179,186,193,207,214,228,235,242,249,256,263,270,277,291,298,305,310,317,322,329,336,343,350,357,364,369,376,381,388,393,400,405]
noncomputable def fnA (k:Nat):Addr:=fnAs.getD k 0
noncomputable def clA:Cls→Addr
  | .fail=>112
  | .limits=>133
  | .pcode=>196
  | .search=>280
noncomputable def lamEF (k:Nat)(names:List (List Nat))(args:Arguments)(body:Expr)(sc:Scope):Bool:=onS (fun c:CFn=>decide (names=c.names)&&plainArgs args (c.names.take c.np)&&parsLocal sc (c.names.take c.np)&&decide (c.np≤c.names.length)&&@CBd.rec (fun q_=>Bool) (fun e=>e.mt tabs.bare sc c.names body) (fun q_=>false) c.body) (clT k)
noncomputable def lamSF (k:Nat)(names:List (List Nat))(args:Arguments)(body:List Stmt)(sc:Scope):Bool:=onS (fun c:CFn=>decide (names=c.names)&&plainArgs args (c.names.take c.np)&&parsLocal sc (c.names.take c.np)&&decide (c.np≤c.names.length)&&@CBd.rec (fun q_=>Bool) (fun q_=>false) (fun ss=>mSs tabs.bare sc c.names ss body) c.body) (clT k)
noncomputable def tabsB:Tabs:={ gnames:=tabs.gnames,mnames:=tabs.mnames,lamE:=lamEF,lamS:=lamSF }
noncomputable def tabsK (k:Nat):Tabs:={ gnames:=tabs.gnames,mnames:=tabs.mnames,sfx:=sfxT k,lamE:=lamEF,lamS:=lamSF }
noncomputable def tabsL:List (Addr×Addr):=[(375,371),(380,378),(399,395),(404,402)]
noncomputable def siteL (a:Addr):Str:=if a=375 then "_law_all.<locals>.<lambda>" else if a=380 then "_law_again.<locals>.once" else if a=399 then "_law_meets.<locals>.<lambda>" else "law.<locals>.<lambda>"
noncomputable def cloNT (k:Nat):List (List Nat):=((clT k).map CFn.names).getD []
noncomputable def cloAT (k:Nat):Nat:=((clT k).map CFn.np).getD 0
noncomputable def cloET (k:Nat)(x:Expr)(sc:Scope):Prop:=∃ c e,clT k=some c∧c.body = .expr e∧e.mt tabs.bare sc c.names x=true
noncomputable def cloST (k:Nat)(xs:List Stmt)(sc:Scope):Prop:=∃ c ss,clT k=some c∧c.body = .stmts ss∧mSs tabs.bare sc c.names ss xs=true
theorem val_none (n:Nat):valT (n+68)=none:=by kernel_rfl
theorem fn_none (n:Nat):fnT (n+45)=none:=by kernel_rfl
noncomputable abbrev mthP:List (Nat×Nat):=[(0,10),(1,11),(2,12),(3,13),(4,14),(5,15)]
noncomputable abbrev mthS:List (Nat×Nat):=[(6,19),(7,20),(8,21),(9,22),(10,23),(11,24),(12,25)]
theorem mth_mem {c:Cls}{i j:Nat}(h:mthL c i=some j):(i,j)∈(match c with | .pcode=>mthP | .search=>mthS | _=>[]):=by
  cases c with
  | fail=>cases h
  | limits=>cases h
  | pcode =>
    match i,h with
    | 0,h=>cases h;decide
    | 1,h=>cases h;decide
    | 2,h=>cases h;decide
    | 3,h=>cases h;decide
    | 4,h=>cases h;decide
    | 5,h=>cases h;decide
    | 6,h | 7,h | 8,h | 9,h | 10,h | 11,h | 12,h | n+13,h=>cases h
  | search =>
    match i,h with
    | 6,h=>cases h;decide
    | 7,h=>cases h;decide
    | 8,h=>cases h;decide
    | 9,h=>cases h;decide
    | 10,h=>cases h;decide
    | 11,h=>cases h;decide
    | 12,h=>cases h;decide
    | 0,h | 1,h | 2,h | 3,h | 4,h | 5,h | n+13,h=>cases h
structure FragOk (K:Frag):Prop where
  ns:nsB K mainGlobals=true
  nt:(tabsL.all fun q=>(K.lookup q.2).isNone&&codeHdIn K q.1 q.2)=true
  enm:(nsK K mainGlobals (toS [101,110,117,109,101,114,97,116,101])).isNone=true
  vals:((List.range 68).all fun k=>onS (fun n=>onS (valB K fnA clA n) (valT k)) tabs.gnames[k]?)=true
  law:nsK K mainGlobals (toS [108,97,119])=some (.ref 405)
  rng:(nsK K mainGlobals (toS [114,97,110,103,101])).isNone=true
  zip:(nsK K mainGlobals (toS [122,105,112])).isNone=true
  fns:((List.range 45).all fun k=>k==8||onS (fun f=>fnB K (tabsK k) f (fnA k)&&siteB K (tabsK k) tabsL siteL (fnA k)) (fnT k))=true
  limC:onS (fun fd=>coreB K tabsB f_Limits_init fd) (fdAt K 130)=true
  lim:LimOk K 130
  cl1:clsB K tabsB fnA 133 (some 8) []=true
  cl2:clsB K tabsB fnA 196 (some 9) mthP=true
  cl3:clsB K tabsB fnA 280 (some 18) mthS=true
noncomputable def theBase (prog:Program)(w:World)(h:Heap)(K:Frag)(mb:Str→Option Value):Base:=⟨prog,w,h,tabsB,GlT,tabsL,siteL,cloNT,cloAT,cloET,cloST,fnA,clA,nsK K mainGlobals,mb⟩
noncomputable def noneAt:Option (Option Value)→Bool
  | some none=>true
  | _=>false
theorem meth_obj:∀ n∈tabs.mnames,∃ y,typeLookup (.type "object") (toS n)=pure y:=by
  have h:tabs.mnames.all (fun n=>noneAt (fastLookup "object" (toS n)))=true:=by kernel_rfl
  intro n hn
  have h:=List.all_eq_true.mp h n hn
  refine⟨none,?_⟩
  rw[typeLookup_type,builtinLookup_eq_fast]
  cases q:fastLookup "object" (toS n) with
  | none=>rw[q] at h;exact bad h
  | some o =>
    cases o with
    | none=>rfl
    | some v=>rw[q] at h;exact bad h
theorem mem4 {q:Addr×Addr}(h:q∈tabsL):q=(375,371)∨q=(380,378)∨q=(399,395)∨q=(404,402):=by
  rcases List.mem_cons.mp h with e | h
  · exact .inl e
  rcases List.mem_cons.mp h with e | h
  · exact .inr (.inl e)
  rcases List.mem_cons.mp h with e | h
  · exact .inr (.inr (.inl e))
  exact .inr (.inr (.inr (List.mem_singleton.mp h)))
theorem tabs_of (k:Nat)(B:Base)(hB:B.T=tabsB):TabsOf B (tabsK k):=⟨by rw[hB];rfl,by rw[hB];rfl,fun q_ q_ q_ q_ q_ h=>by rw[hB];exact h,fun q_ q_ q_ q_ q_ h=>by rw[hB];exact h⟩
theorem tabs_ofB (B:Base)(hB:B.T=tabsB):TabsOf B tabsB:=⟨by rw[hB],by rw[hB],fun q_ q_ q_ q_ q_ h=>by rw[hB];exact h,fun q_ q_ q_ q_ q_ h=>by rw[hB];exact h⟩
section
variable {K:Frag}(FK:FragOk K){prog:Program}{w:World}{h:Heap}{mb:Str→Option Value}(X:K.In h)(nb:h.Ns builtinsNs mb)(hb:∀ x:Str,x ≠ "__name__" → mb x=bootBuiltins x)(nl:h.NoLimit)
include FK X nb hb nl
theorem no_tab:∀ b∈(theBase prog w h K mb).tabP,K.lookup b=none:=fun b hm=>by
  obtain⟨q,hq,rfl⟩:=List.mem_map.mp hm
  exact Option.isNone_iff_eq_none.mp (jQ (List.all_eq_true.mp FK.nt q hq)).1
theorem base_ok:BaseOk (theBase prog w h K mb) where
  glb:=nsB_i X FK.ns
  blt:=nb
  glbT:=fun m=>absurd m (show mainGlobals ∉ [371,378,395,402] by decide)
  bltT:=fun m=>absurd m (show builtinsNs ∉ [371,378,395,402] by decide)
  lim:=nl
  limT:=fun m=>absurd m (show cStatics ∉ [371,378,395,402] by decide)
  val :=fun k v hv=>by
    have hv:valT k=some v:=hv
    have hk:k<68:=Nat.lt_of_not_le fun q=>by
      obtain⟨n,rfl⟩:=Nat.exists_eq_add_of_le' q
      rw[val_none] at hv;cases hv
    refine via fun R_ k_=>?_
    obtain⟨n,hn,h2⟩:=onS_i (List.all_eq_true.mp FK.vals k (List.mem_range.mpr hk))
    obtain⟨v',hv',h3⟩:=onS_i h2
    refine k_ ?_
    rw[hv] at hv';cases hv'
    obtain⟨u,h4,h5⟩:=valB_i (B:=theBase prog w h K mb) X (no_tab (prog:=prog) (w:=w) FK X nb hb nl) h3 rfl hb
    exact⟨_,u,hn,h4,h5⟩
theorem src_ok:SrcOk (theBase prog w h K mb) where
  rng:=⟨Option.isNone_iff_eq_none.mp FK.rng,(hb _ (bi_name .range)).trans (boot_bi .range)⟩
  zip:=⟨Option.isNone_iff_eq_none.mp FK.zip,(hb _ (bi_name .zip)).trans (boot_bi .zip)⟩
  enm:=⟨Option.isNone_iff_eq_none.mp FK.enm,(hb _ (bi_name .enumerate)).trans (boot_bi .enumerate)⟩
theorem cls_ok:ClassesOk (theBase prog w h K mb):=fun c hc=>by
  have NT:=no_tab (prog:=prog) (w:=w) FK X nb hb nl
  cases c with
  | fail=>exact absurd rfl hc
  | limits=>exact clsB_i (B:=theBase prog w h K mb) X NT FK.cl1 (fun j hj=>by cases hj;rfl) (fun i j hj=>nomatch hj) meth_obj
  | pcode=>exact clsB_i (B:=theBase prog w h K mb) X NT FK.cl2 (fun j hj=>by cases hj;rfl) (fun i j hj=>mth_mem (c := .pcode) hj) meth_obj
  | search=>exact clsB_i (B:=theBase prog w h K mb) X NT FK.cl3 (fun j hj=>by cases hj;rfl) (fun i j hj=>mth_mem (c := .search) hj) meth_obj
theorem fns_ok:FnsOk (theBase prog w h K mb) fnT where
  all := fun k f hf=>by
    have NT:=no_tab (prog:=prog) (w:=w) FK X nb hb nl
    have hlt:k<45:=Nat.lt_of_not_le fun q=>by
      obtain⟨n,rfl⟩:=Nat.exists_eq_add_of_le' q
      rw[fn_none] at hf;cases hf
    by_cases h8:k=8
    · subst h8
      cases hf
      refine via fun R_ k_=>?_
      obtain⟨fd,e,hc⟩:=onS_i FK.limC
      obtain⟨C,b,hb',hm⟩:=coreB_i (B:=theBase prog w h K mb) X NT (tabs_ofB _ rfl) (fun w hw=>by cases hw) e hc
      obtain⟨t1,t2,t3,t4,hbd⟩:=lim_bind FK.lim e
      refine k_ ?_
      exact⟨fd,_,b,C,hb',hm,fun s G H vs I hl=>(hbd s fun a o e=>I.sub _ _ (I.old _ _ (X _ _ e) (offT NT e))).1 vs hl⟩
    · have:=List.all_eq_true.mp FK.fns k (List.mem_range.mpr hlt)
      rcases(Bool.or_eq_true _ _).mp this with q | q
      · exact absurd (beq_iff_eq.mp q) h8
      · obtain⟨f',hf',q⟩:=onS_i q
        rw[hf] at hf';cases hf'
        have q:=jQ q
        exact fnB_i (B:=theBase prog w h K mb) X NT (tabs_of k _ rfl) q.2 q.1
  nofail:=rfl
  lim:=fun k f hk hf o fd ho hd=>by
    have NT:=no_tab (prog:=prog) (w:=w) FK X nb hb nl
    cases hk
    cases hf
    refine via fun R_ k_=>?_
    obtain⟨fd',e,hc⟩:=onS_i FK.limC
    obtain⟨o',ho',hd'⟩:=Option.bind_eq_some_iff.mp e
    refine k_ ?_
    have e1:=X _ _ ho'
    have ho:h.get? 130=some o:=ho
    rw[e1] at ho;cases ho
    have hd':=fdOf_i hd'
    rw[hd] at hd';cases hd'
    refine via fun R_ k_=>?_
    obtain⟨t1,t2,t3,t4,hbd⟩:=lim_bind FK.lim e
    refine k_ ?_
    refine⟨t1,t2,t3,t4,fun s G H x I=>?_⟩
    have:=hbd s fun a o e=>I.sub _ _ (I.old _ _ (X _ _ e) (offT NT e))
    exact this.2.1 x
theorem code_ok (ht:∀ P∈[378,371,395,402],h.get? P=some (tabObj #[]))(BM:∃ bm ob,nsK K mainGlobals "__builtins__" = some (.ref bm)∧bm≠builtinsNs∧h.get? bm=some ob∧ob.cls = .type "module" ∧ ob.dict=some builtinsNs∧ob.data = .plain):CodeOk (theBase prog w h K mb) where
  hd:=fun q hq=>⟨codeHd_of_K X (jQ (List.all_eq_true.mp FK.nt q hq)).2,by show q.1 ∉ [371,378,395,402];rcases mem4 hq with rfl | rfl | rfl | rfl <;> decide⟩
  one:=fun q hq q' hq' e=>by rcases mem4 hq with rfl | rfl | rfl | rfl <;> rcases mem4 hq' with rfl | rfl | rfl | rfl <;> first | rfl | exact absurd e (by decide)
  bi := by
    refine via fun R_ k_=>?_
    obtain⟨bm,ob,h1,h2,h3,h4,h5,h6⟩:=BM
    refine k_ ?_
    refine⟨bm,ob,h1,h2,fun q=>?_,fun hm=>?_,h3,h4,h5,h6⟩
    · refine via fun R_ k_=>?_
      obtain⟨o,es,ep,e,d,_⟩:=nsB_i X FK.ns
      refine k_ ?_
      rw[q,e] at h3
      cases h3
      rw[h6] at d
      cases d
    · have:=ht bm (by
        have hm:bm∈[371,378,395,402]:=hm
        simp only[List.mem_cons,List.not_mem_nil,or_false] at hm ⊢
        exact or_left_comm.mp hm)
      rw[h3] at this
      cases this
      cases h4
omit FK X nb hb nl in
theorem lam_ok:LamOk (theBase prog w h K mb) where
  ex :=fun k names args body sc e=>by
    obtain⟨c,hc,e⟩:=onS_i (show lamEF k names args body sc=true from e)
    have e:=jQ e
    have e5:=e.2
    have e:=jQ e.1
    have e4:=of_decide_eq_true e.2
    have e:=jQ e.1
    have e3:=e.2
    have e:=jQ e.1
    have n:cloNT k=c.names:=by unfold cloNT;rw[hc];rfl
    have a:cloAT k=c.np:=by unfold cloAT;rw[hc];rfl
    show names=cloNT k∧plainArgs args ((cloNT k).take (cloAT k))=true∧parsLocal sc ((cloNT k).take (cloAT k))=true∧cloAT k≤(cloNT k).length∧cloET k body sc
    rw[n,a]
    refine⟨of_decide_eq_true e.1,e.2,e3,e4,c,?_⟩
    cases q:c.body with
    | expr x=>rw[q] at e5;exact⟨x,hc,rfl,e5⟩
    | stmts x=>rw[q] at e5;exact bad e5
  st :=fun k names args body sc e=>by
    obtain⟨c,hc,e⟩:=onS_i (show lamSF k names args body sc=true from e)
    have e:=jQ e
    have e5:=e.2
    have e:=jQ e.1
    have e4:=of_decide_eq_true e.2
    have e:=jQ e.1
    have e3:=e.2
    have e:=jQ e.1
    have n:cloNT k=c.names:=by unfold cloNT;rw[hc];rfl
    have a:cloAT k=c.np:=by unfold cloAT;rw[hc];rfl
    show names=cloNT k∧plainArgs args ((cloNT k).take (cloAT k))=true∧parsLocal sc ((cloNT k).take (cloAT k))=true∧cloAT k≤(cloNT k).length∧cloST k body sc
    rw[n,a]
    refine⟨of_decide_eq_true e.1,e.2,e3,e4,c,?_⟩
    cases q:c.body with
    | stmts x=>rw[q] at e5;exact⟨x,hc,rfl,e5⟩
    | expr x=>rw[q] at e5;exact bad e5
omit FK X nb hb nl in
theorem clos_ok:ClsOk (theBase prog w h K mb) clT where
  all :=fun k c hc=>by
    refine⟨by show cloNT k=_;unfold cloNT;rw[hc];rfl,by show cloAT k=_;unfold cloAT;rw[hc];rfl,fun sc=>⟨fun x hx=>?_,fun xs hx=>?_⟩⟩
    · refine via fun R_ k_=>?_
      obtain⟨c',e,h1,h2,h3⟩:=hx
      refine k_ ?_
      rw[hc] at h1;cases h1
      exact⟨e,h2,h3⟩
    · refine via fun R_ k_=>?_
      obtain⟨c',e,h1,h2,h3⟩:=hx
      refine k_ ?_
      rw[hc] at h1;cases h1
      exact⟨e,h2,h3⟩
omit FK X nb hb nl in
theorem row_rep {B:Base}{G:St}:∀ {vs:List Value}{xs:List Int},IntsAre vs xs→RepL B G (xs.map AV.int) vs
  | _,_,.nil=>rfl
  | _,_,.cons n t r=>⟨_,_,rfl,⟨t,rfl⟩,row_rep r⟩
theorem run_law {xs : List Int} {vs : List Value}{a:Addr}(hL:h.IsList a vs.toArray)(hI:IntsAre vs xs)(ht:∀ P∈[378,371,395,402],h.get? P=some (tabObj #[]))(BM:∃ bm ob,nsK K mainGlobals "__builtins__" = some (.ref bm)∧bm≠builtinsNs∧h.get? bm=some ob∧ob.cls = .type "module" ∧ ob.dict=some builtinsNs∧ob.data = .plain){W n:Nat}{H':AH}(e:acall GlT fnT clT W n (.fn 44) [.row (xs.map .int)] []=some (.bool true,H'))(hn:n≤690)
    {s:Shared} (hs:s.heap=h) {Q:Value→Shared→Prop} {E:Value→Shared→Prop} (hQ:∀ h' tk,(∀ b o,b ∉ [378,371,395,402]→h.get? b=some o→h'.get? b=some o)→(∀ q∈tabsL,∃ ps,h'.get? q.2=some (tabObj ps))→Q (.bool true) { s with heap:=h',toks:=tk }) :
    wpAny (model prog w) callerA (call (.ref 405) [.ref a]) Q E s:=by
  subst hs
  have R : Room callerA n := ⟨by show 1 + claimMargin+n<recursionLimit;have:claimMargin+1+690<recursionLimit:=by decide
                                 omega, by show 4+8 * n+8<cLine;have:4+8 * 690+8<cLine:=by decide
                                           omega,rfl⟩
  have C:=acall_ok (base_ok FK X nb hb nl) (cls_ok FK X nb hb nl) (src_ok FK X nb hb nl) (fns_ok (prog:=prog) (w:=w) FK X nb hb nl) (code_ok FK X nb hb nl ht BM) lam_ok clos_ok W n callerA R
  refine via fun R_ k_=>?_
  obtain⟨o,ho,hc,k,hd⟩:=hL
  refine k_ ?_
  have hT:∀ P,P∈(theBase prog w s.heap K mb).tabP↔P∈[378,371,395,402]:=fun P=>by
    show P∈[371,378,395,402]↔_
    simp only[List.mem_cons,List.not_mem_nil,or_false]
    exact or_left_comm
  let G:St:=⟨fun b=>if b∈[378,371,395,402] then none else s.heap.get? b,[]⟩
  have gs:∀ b o,G.g b=some o→s.heap.get? b=some o:=fun b o e=>by
    by_cases hb:b∈[378,371,395,402]
    · exact nomatch ((if_pos hb).symm.trans e)
    · exact(if_neg hb).symm.trans e
  have go:∀ b o,b ∉ [378,371,395,402]→s.heap.get? b=some o→G.g b=some o:=fun b o hb e=>(if_neg hb).trans e
  have hat:a ∉ [378,371,395,402]:=fun m=>by
    have:=ht a m
    rw[ho] at this
    cases this
    cases hc
  have I:Inv (theBase prog w s.heap K mb) G [] s.heap:=⟨gs,fun b o e hb=>go b o (fun m=>hb ((hT b).mpr m)) e,fun q hq=>⟨#[],ht _ ((hT _).mp (List.mem_map_of_mem hq)),trivial,fun pos cv e=>nomatch e⟩,fun P hP=>if_pos ((hT P).mp hP),rfl,List.Pairwise.nil,(fun q_ m=>nomatch m),(fun q_ q_ q_ e=>nomatch e)⟩
  have rs:RepL (theBase prog w s.heap K mb) G [.row (xs.map .int)] [.ref a]:=⟨_,_,rfl,⟨a,vs.toArray,k,rfl,⟨o,go a o hat ho,hc,hd⟩,row_rep hI⟩,rfl⟩
  obtain⟨_,y⟩:=C.pos s G [] H' (.fn 44) (.bool true) _ (.ref 405) [.ref a] (.inl ⟨44,rfl⟩) I rfl rs e
  refine y Q E fun v G' h' tk st I' r=>?_
  rw[show v=_ from r]
  exact hQ h' tk (fun b o hb e=>I'.sub _ _ (st.mono _ _ (go b o hb e))) fun q hq=>(I'.tabs q hq).elim fun ps x=>⟨ps,x.1⟩
end
theorem ns_same {h:Heap}{a:Addr}{m m':Str→Option Value}(x:h.Ns a m)(y:h.Ns a m')(n:Str):m n=m' n:=by
  refine via fun R_ k_=>?_
  obtain⟨o,es,ep,h1,h2,_,h3⟩:=x
  obtain⟨o',es',ep',g1,g2,_,g3⟩:=y
  refine k_ ?_
  rw[h1] at g1;cases g1
  rw[h2] at g2;cases g2
  rw[←h3,←g3]
theorem fa_eq {K:Frag}(FK:FragOk K){h:Heap}(X:K.In h){mg:Str→Option Value}(hg:h.Ns mainGlobals mg){n:Str}(hn:n=toS [108,97,119]){fa:Addr}(e:mg n=some (.ref fa)):fa=405:=by
  have:=ns_same hg (nsB_i X FK.ns) n
  rw[e,hn,FK.law] at this
  cases this;rfl
end
section
set_option backward.match.sparseCases false
open PySem PySem.W PyProof.Rows PySem.Calls
noncomputable def jG:Nat:=10 ^ 10
noncomputable abbrev ac (n:Nat):Orc:=acall GlT fnT clT jG n
theorem old_of {K:Frag}(FK:FragOk K){h h':Heap}(X:K.In h)(ht:∀ P∈[378,371,395,402],h.get? P=some (tabObj #[]))(k:∀ b o,b ∉ [378,371,395,402]→h.get? b=some o→h'.get? b=some o)(g:∀ q∈tabsL,∃ ps,h'.get? q.2=some (tabObj ps)):OldK h h':=by
  have grown:∀ b o,b∈[378,371,395,402]→h.get? b=some o→isCodeTable h b∧o=tabObj #[]∧∃ ps,h'.get? b=some (tabObj ps):=fun b o hb e=>by
    have e2:=ht b hb
    rw[e] at e2
    have hq:∃ q∈tabsL,q.2=b:=by
      rcases List.mem_cons.mp hb with x | hb
      · exact⟨(380,378),.tail _ (.head _),x.symm⟩
      rcases List.mem_cons.mp hb with x | hb
      · exact⟨(375,371),.head _,x.symm⟩
      rcases List.mem_cons.mp hb with x | hb
      · exact⟨(399,395),.tail _ (.tail _ (.head _)),x.symm⟩
      · exact⟨(404,402),.tail _ (.tail _ (.tail _ (.head _))),(List.mem_singleton.mp hb).symm⟩
    obtain⟨q,hq,rfl⟩:=hq
    have cd:=codeHd_of_K X (jQ (List.all_eq_true.mp FK.nt q hq)).2
    exact⟨(cd.tab (ht _ hb)).isCodeTable,Option.some.inj e2,g q hq⟩
  refine⟨fun b o e=>?_,fun b o e=>?_⟩
  · by_cases hb:b∈[378,371,395,402]
    · obtain⟨hc,rfl,ps,hP⟩:=grown b o hb e
      exact .inr (.inl ⟨hc,rfl,#[],ps,rfl,by rw[Array.empty_append];exact hP⟩)
    · exact .inl (k b o hb e)
  · by_cases hb:b∈[378,371,395,402]
    · obtain⟨_,_,ps,hP⟩:=grown b o hb e
      exact⟨_,hP⟩
    · exact⟨o,k b o hb e⟩
theorem fin_law (LT:∀ xs:List Int,xs.length≤63→∃ H',ac 690 (.fn 44) [.row (xs.map .int)] []=some (.bool true,H')){K:Frag}{prog:Program}{w:World}{mg mb:Str→Option Value}{c:ClaimW}{cl:Str→Option Addr}{mean:ExcName→Option Value}{args:List WData}{s:Shared}(FK:FragOk K)(X:K.In s.heap)(ht:∀ P∈[378,371,395,402],s.heap.get? P=some (tabObj #[]))(ng:s.heap.Ns mainGlobals mg)(BM:∃ bm ob,mg "__builtins__" = some (.ref bm)∧bm≠builtinsNs∧s.heap.get? bm=some ob∧ob.cls = .type "module" ∧ ob.dict=some builtinsNs∧ob.data = .plain)(nb:s.heap.Ns builtinsNs mb)
    (hb:∀ x:Str,x ≠ "__name__" → mb x=bootBuiltins x) (nl:s.heap.NoLimit) {n:Str} (hn:n=toS [108,97,119]) {fa:Addr} (e:mg n=some (.ref fa)) {a:Addr} {vs:List Value} {xs:List Int} (hL:s.heap.IsList a vs.toArray) (hI:IntsAre vs xs) (hl:xs.length≤63)
    (hg:s.gens = #[]) (hr:∀ k,c.raises args k=false) (hp:c.post args (.bool true) args=true) {E:Value→Shared→Prop} :
    wpAny (model prog w) callerA (call (.ref fa) [.ref a]) (fun v s'=>GoodWG c cl mean args s (.ok (.ret v)) s') E s:=by
  have q:=fa_eq FK X ng hn e
  subst q
  obtain⟨H',e⟩:=LT xs hl
  refine run_law FK X nb hb nl hL hI ht (ns_same ng (nsB_i X FK.ns) "__builtins__" ▸ BM) e (Nat.le_refl _) rfl fun h' tk k g=>?_
  exact⟨.inl ⟨.bool true,.bool true,[],rfl,hr,.bool true,hp,fun q_=>⟨List.nodup_nil,fun q_ m=>nomatch m⟩⟩,old_of FK X ht k g,rfl,.of_eq hg⟩
end
section
set_option backward.match.sparseCases false
open PySem
noncomputable abbrev HP:=AH→Prop
noncomputable def Yl {α:Type}(m:AM α)(P:HP)(v:α)(Q:HP):Prop:=∀ H,P H→∃ H',m H=some (v,H')∧Q H'
theorem zV {α β:Type}{m:AM α}{f:α→AM β}{P Q R:HP}{v:α}{w:β}(h:Yl m P v Q)(k:Yl (f v) Q w R):Yl (zZ m f) P w R:=fun H p=>by
  obtain⟨H1,e1,q⟩:=h H p
  rw[wV e1]
  exact k H1 q
theorem wD {α:Type}{m:AM α}{P:HP}{v:α}(h:∀ H,m H=some (v,H)):Yl m P v P:=fun H p=>⟨H,h H,p⟩
theorem wQ {α:Type}{P:HP}{v:α}:Yl (zH v) P v P:=wD fun H=>rfl
theorem y_opt {α:Type}{o:Option α}{P:HP}{v:α}(h:o=some v):Yl (jW o) P v P:=by rw[h];exact wD fun H=>rfl
theorem y_aif {b:Prop} [Decidable b]{P:HP}(h:b):Yl (jW (aif b ())) P () P:=y_opt (ZG h)
section
variable {G:Glo}{call:Orc}{F:AF}{H H1 H2:AH}
theorem exs_next {W:Nat}{s:XS}{r:List XS}{F1:AF}(h:s.ex G call W F H=some ((.next,F1),H1)):exs G call W (s::r) F H=exs G call W r F1 H1:=by
  show zZ (s.ex G call W F) (fun p=>ZU (exs G call W r) p) H=_
  rw[wV h];rfl
theorem exs_append {W:Nat}{F1:AF}:∀ {ss r:List XS}{F:AF}{H:AH},exs G call W ss F H=some ((.next,F1),H1)→exs G call W (ss++r) F H=exs G call W r F1 H1
  | [],r,F,H,h=>by cases h;rfl
  | s::ss,r,F,H,h=>by
    refine via fun R_ k_=>?_
    obtain⟨⟨fl,F2⟩,H2,e1,e2⟩:=zJ (show zZ (s.ex G call W F) (fun p=>ZU (exs G call W ss) p) H=_ from h)
    refine k_ ?_
    cases fl with
    | next=>exact(exs_next e1).trans (exs_append (r:=r) e2)
    | ret v=>cases (show zH (Flo.ret v,F2) H2=some ((Flo.next,F1),H1) from e2)
end
theorem y_read {P:HP}{z:AV}{g:AH→Option AV}(q:∀ H,P H→g H=some z):Yl (aread g) P z P:=fun H p=>⟨H,congrArg (fun o=>o.map fun v=>(v,H)) (q H p),p⟩
noncomputable def E0 (e:XE)(F:AF)(n:Nat)(H:AH):Option (AV×AH):=e.ev GlT (ac n) F H
noncomputable def A0 (es:List XE)(F:AF)(n:Nat)(H:AH):Option (List AV×AH):=evs GlT (ac n) F es H
noncomputable def X0 (ss:List XS)(F:AF)(n:Nat)(H:AH):Option ((Flo×AF)×AH):=exs GlT (ac n) jG ss F H
noncomputable def T0_ (t:XT)(v:AV)(F:AF)(n:Nat)(H:AH):Option (AF×AH):=t.st GlT (ac n) v F H
noncomputable def C0 (f:AV)(xs:List AV)(n:Nat)(H:AH):Option (AV×AH):=ac (n+1) f xs H
noncomputable def V0 {α:Type}(v:α)(n:Nat)(H:AH):Option (α×AH):=some (v,H)
theorem r0 {α:Type}{f:Nat→AH→Option (α×AH)}{v:α}(h:f=V0 v)(n:Nat)(H:AH):f n H=some (v,H):=congrFun (congrFun h n) H
noncomputable def Ye (K:Nat)(F:AF)(e:XE)(P:HP)(v:AV)(Q:HP):Prop:=∀ n,K≤n→Yl (e.ev GlT (ac n) F) P v Q
noncomputable def Yv (K:Nat)(F:AF)(es:List XE)(P:HP)(vs:List AV)(Q:HP):Prop:=∀ n,K≤n→Yl (evs GlT (ac n) F es) P vs Q
noncomputable def Yx (K:Nat)(F:AF)(s:XS)(P:HP)(F':AF)(Q:HP):Prop:=∀ n,K≤n→Yl (s.ex GlT (ac n) jG F) P (.next,F') Q
noncomputable def Ys (K:Nat)(F:AF)(ss:List XS)(P:HP)(fl:Flo)(F':AF)(Q:HP):Prop:=∀ n,K≤n→Yl (exs GlT (ac n) jG ss F) P (fl,F') Q
noncomputable def Yc (K:Nat)(f:AV)(xs:List AV)(P:HP)(v:AV)(Q:HP):Prop:=∀ n,K≤n→Yl (ac n f xs) P v Q
section
variable {K k:Nat}{F F1 F':AF}{P Q R:HP}{e a b:XE}{es:List XE}{v x y z:AV}{vs:List AV}{fl:Flo}{s:XS}{r ss:List XS}
theorem Yc.mono {K':Nat}{f:AV}(h:Yc K f vs P v Q)(hk:K≤K'):Yc K' f vs P v Q:=fun n hn=>h n (Nat.le_trans hk hn)
theorem zW (h:E0 e F=V0 v):Ye K F e P v P:=fun n q_=>wD (r0 h n)
theorem jF:Yv K F [] P [] P:=fun n q_=>wD fun H=>rfl
theorem wW (h:A0 es F=V0 vs):Yv K F es P vs P:=fun n q_=>wD (r0 h n)
theorem zY (h:Ye K F e P v Q)(k:Yv K F es Q vs R):Yv K F (e::es) P (v::vs) R:=fun n hn=>zV (f:=fun x=>zZ (evs GlT (ac n) F es) fun xs=>zH (x::xs)) (h n hn) (zV (k n hn) wQ)
theorem JK {o:Op2}(h:Ye K F a P x Q)(k:Ye K F b Q y R)(q:abin o x y=some z):Ye K F (jZ o a b) P z R:=fun n hn=>zV (f:=fun x=>zZ (b.ev GlT (ac n) F) fun y=>jW (abin o x y)) (h n hn) (zV (k n hn) (y_opt q))
theorem jY {o:OpC}{t:Bool}(h:Ye K F a P x Q)(k:Ye K F b Q y R)(q:JW o x y=some t):Ye K F (zD o a b) P (.bool t) R:=fun n hn=>zV (f:=fun x=>zZ (b.ev GlT (ac n) F) fun y=>jW ((JW o x y).map AV.bool)) (h n hn) (zV (k n hn) (y_opt (congrArg (Option.map AV.bool) q)))
theorem ye_not {t:Bool}(h:Ye K F e P (.bool t) Q):Ye K F (n_not e) P (.bool !t) Q:=fun n hn=>zV (f:=fun v=>zZ (jW (wH v)) fun b=>zH (AV.bool !b)) (h n hn) (wD fun H=>rfl)
theorem ye_sub (h:Ye K F a P x Q)(k:Ye K F b Q y R)(q:∀ H,R H→asub H x y=some z):Ye K F (zA a b) P z R:=fun n hn=>zV (f:=fun x=>zZ (b.ev GlT (ac n) F) fun y=>aread fun H=>asub H x y) (h n hn) (zV (k n hn) (y_read q))
theorem ye_tup (h:Yv K F es P vs Q):Ye K F (jC es) P (.tup vs) Q:=fun n hn=>zV (f:=fun xs=>zH (AV.tup xs)) (h n hn) wQ
theorem jD {f:Nat}(hf:E0 a F=V0 (.fn f))(h:Yv K F es P vs Q)(c:Yc K (.fn f) vs Q z R):Ye K F (zK a es) P z R:=fun n hn=>zV (f:=fun x=>zZ (evs GlT (ac n) F es) fun xs=>acallB (ac n) x xs) (wD (r0 hf n)) (zV (f:=fun xs=>acallB (ac n) (.fn f) xs) (h n hn) (c n hn))
theorem ye_callk {f:Nat}{l:List (Nat×AV)}(hf:E0 a F=V0 (.clo f l))(h:Yv K F es P vs Q)(c:Yc K (.clo f l) vs Q z R):Ye K F (zK a es) P z R:=fun n hn=>zV (f:=fun x=>zZ (evs GlT (ac n) F es) fun xs=>acallB (ac n) x xs) (wD (r0 hf n)) (zV (f:=fun xs=>acallB (ac n) (.clo f l) xs) (h n hn) (c n hn))
theorem ye_bi {f:Bi}(hf:E0 a F=V0 (.bi f))(h:Yv K F es P vs Q)(c:∀ H,Q H→abi H f vs=some z):Ye K F (zK a es) P z Q:=fun n hn=>zV (f:=fun x=>zZ (evs GlT (ac n) F es) fun xs=>acallB (ac n) x xs) (wD (r0 hf n)) (zV (f:=fun xs=>acallB (ac n) (.bi f) xs) (h n hn) (y_read c))
theorem ye_itet {c:XE}(h:Ye K F c P (.bool true) Q)(k:Ye K F a Q v R):Ye K F (n_ite c a b) P v R:=fun n hn=>zV (f:=fun v=>zZ (jW (wH v)) fun t=>if t then a.ev GlT (ac n) F else b.ev GlT (ac n) F) (h n hn) (k n hn)
theorem ye_itef {c:XE}(h:Ye K F c P (.bool false) Q)(k:Ye K F b Q v R):Ye K F (n_ite c a b) P v R:=fun n hn=>zV (f:=fun v=>zZ (jW (wH v)) fun t=>if t then a.ev GlT (ac n) F else b.ev GlT (ac n) F) (h n hn) (k n hn)
theorem JQ (h:Ye K F e P (.bool true) Q)(k:Ye K F (ZH es) Q v R):Ye K F (ZH (e::es)) P v R:=fun n hn=>zV (f:=fun v=>zZ (jW (wH v)) fun t=>if t then ands GlT (ac n) F es else zH (AV.bool false)) (h n hn) (k n hn)
theorem ye_andf (h:Ye K F e P (.bool false) Q):Ye K F (ZH (e::es)) P (.bool false) Q:=fun n hn=>zV (f:=fun v=>zZ (jW (wH v)) fun t=>if t then ands GlT (ac n) F es else zH (AV.bool false)) (h n hn) wQ
theorem ye_and1 {t:Bool}(h:Ye K F e P (.bool t) Q):Ye K F (ZH [e]) P (.bool t) Q:=fun n hn=>zV (f:=fun v=>zZ (jW (wH v)) fun t=>if t then ands GlT (ac n) F [] else zH (AV.bool false)) (h n hn) (by cases t <;> exact wQ)
theorem ye_ort (h:Ye K F e P (.bool true) Q):Ye K F (n_or (e::es)) P (.bool true) Q:=fun n hn=>zV (f:=fun v=>zZ (jW (wH v)) fun t=>if t then zH (AV.bool true) else ors GlT (ac n) F es) (h n hn) wQ
theorem ye_orf (h:Ye K F e P (.bool false) Q)(k:Ye K F (n_or es) Q v R):Ye K F (n_or (e::es)) P v R:=fun n hn=>zV (f:=fun v=>zZ (jW (wH v)) fun t=>if t then zH (AV.bool true) else ors GlT (ac n) F es) (h n hn) (k n hn)
theorem ye_or1 {t:Bool}(h:Ye K F e P (.bool t) Q):Ye K F (n_or [e]) P (.bool t) Q:=fun n hn=>zV (f:=fun v=>zZ (jW (wH v)) fun t=>if t then zH (AV.bool true) else ors GlT (ac n) F []) (h n hn) (by cases t <;> exact wQ)
theorem jK {i:Nat}(h:Ye K F e P v Q)(hi:i<F.length):Yx K F (zU (zC i false) e) P (F.set i (some v)) Q:=fun n hn=>zV (f:=fun v=>zZ ((zC i false).st GlT (ac n) v F) fun F'=>zH (Flo.next,F')) (h n hn) (zV (m:=(zC i false).st GlT (ac n) v F) (v:=F.set i (some v)) (wD fun H=>by
    show zZ (jW (aif ((i<F.length&&(!false||(nth F i).isNone))=true) ())) (fun q_=>zH (setN F i (some v))) H=_
    rw[setN_eq,opt_eq (x:=()) (ZG (by simp[hi]))];rfl) wQ)
theorem yx_expr (h:Ye K F e P v Q)(hv:(v.isNone||(wY v).isSome)=true):Yx K F (ZX e) P F Q:=fun n hn=>zV (f:=fun v=>zZ (jW (aif ((v.isNone||(wY v).isSome)=true) ())) fun q_=>zH (Flo.next,F)) (h n hn) (zV (y_aif hv) wQ)
theorem ZY:Ys K F [] P .next F P:=fun n q_=>wQ
theorem zG (h:Yx K F s P F1 Q)(k:Ys K F1 r Q fl F' R):Ys K F (s::r) P fl F' R:=fun n hn=>zV (f:=fun p=>ZU (exs GlT (ac n) jG r) p) (h n hn) (k n hn)
theorem jJ (h:Ye K F e P v Q):Ys K F (jX e::r) P (.ret v) F Q:=fun n hn=>zV (f:=fun p=>ZU (exs GlT (ac n) jG r) p) (v:=(Flo.ret v,F)) (zV (f:=fun v=>zH (Flo.ret v,F)) (h n hn) wQ) wQ
theorem ys_retN:Ys K F (s_retN::r) P (.ret .none) F P:=fun n hn=>zV (f:=fun p=>ZU (exs GlT (ac n) jG r) p) (v:=(Flo.ret .none,F)) wQ wQ
theorem wX {a b:List XS}{c:XE}(h:Ye K F c P (.bool true) Q)(k:Ys K F a Q (.ret v) F' R):Ys K F (wB c a b::r) P (.ret v) F' R:=fun n hn=>zV (f:=fun p=>ZU (exs GlT (ac n) jG r) p) (v:=(Flo.ret v,F')) (zV (f:=fun v=>zZ (jW (wH v)) fun t=>if t then exs GlT (ac n) jG a F else exs GlT (ac n) jG b F) (h n hn) (k n hn)) wQ
theorem ZV {a:List XS}{c:XE}(h:Ye K F c P (.bool false) Q)(k:Ys K F r Q fl F' R):Ys K F (wB c a []::r) P fl F' R:=fun n hn=>zV (f:=fun p=>ZU (exs GlT (ac n) jG r) p) (v:=(Flo.next,F)) (zV (f:=fun v=>zZ (jW (wH v)) fun t=>if t then exs GlT (ac n) jG a F else exs GlT (ac n) jG [] F) (h n hn) wQ) (k n hn)
theorem ys_ifn {a b:List XS}{c:XE}(h:Ye K F c P (.bool true) Q)(k:Ys K F a Q .next F1 R){S:HP}(l:Ys K F1 r R fl F' S):Ys K F (wB c a b::r) P fl F' S:=fun n hn=>zV (f:=fun p=>ZU (exs GlT (ac n) jG r) p) (v:=(Flo.next,F1)) (zV (f:=fun v=>zZ (jW (wH v)) fun t=>if t then exs GlT (ac n) jG a F else exs GlT (ac n) jG b F) (h n hn) (k n hn)) (l n hn)
theorem wU (j:Nat)(h:X0 (ss.take j) F=V0 (.next,F1))(k:Ys K F1 (ss.drop j) P fl F' R):Ys K F ss P fl F' R:=fun n hn H p=>by
  obtain⟨H',e,q⟩:=k n hn H p
  refine⟨H',?_,q⟩
  rw[←List.take_append_drop j ss]
  exact(exs_append (r0 h n H)).trans e
theorem ZJ {f:IFn}(hf:fnT k=some f)(hF:frameOf f.names.length f.np vs []=some F)(h:Ys K F f.body P fl F' Q):Yc (K+1) (.fn k) vs P fl.val Q:=fun n hn=>by
  obtain⟨m,rfl⟩:∃ m,n=m+1:=⟨n-1,(Nat.succ_pred_eq_of_pos (Nat.lt_of_lt_of_le (Nat.succ_pos K) hn)).symm⟩
  exact zV (f:=fun ir=>arun GlT jG (ac m) ir vs) (y_opt hf) (zV (f:=fun F=>zZ (exs GlT (ac m) jG f.body F) fun p=>zH p.1.val) (y_opt hF) (zV (h m (Nat.le_of_succ_le_succ hn)) wQ))
theorem yc_clo {f:CFn}{l:List (Nat×AV)}{b:XE}(hf:clT k=some f)(hF:frameOf f.names.length f.np vs l=some F)(hb:f.body = .expr b)(h:Ye K F b P v Q):Yc (K+1) (.clo k l) vs P v Q:=fun n hn=>by
  obtain⟨m,rfl⟩:∃ m,n=m+1:=⟨n-1,(Nat.succ_pred_eq_of_pos (Nat.lt_of_lt_of_le (Nat.succ_pos K) hn)).symm⟩
  refine zV (f:=fun c=>crun GlT jG (ac m) c vs l) (y_opt hf) (zV (f:=fun F=>bdrun GlT jG (ac m) f.body F) (y_opt hF) ?_)
  show Yl (bdrun GlT jG (ac m) f.body F) P v Q
  rw[hb]
  exact h m (Nat.le_of_succ_le_succ hn)
theorem yc_clos {f:CFn}{l:List (Nat×AV)}{b:List XS}(hf:clT k=some f)(hF:frameOf f.names.length f.np vs l=some F)(hb:f.body = .stmts b)(h:Ys K F b P fl F' Q):Yc (K+1) (.clo k l) vs P fl.val Q:=fun n hn=>by
  obtain⟨m,rfl⟩:∃ m,n=m+1:=⟨n-1,(Nat.succ_pred_eq_of_pos (Nat.lt_of_lt_of_le (Nat.succ_pos K) hn)).symm⟩
  refine zV (f:=fun c=>crun GlT jG (ac m) c vs l) (y_opt hf) (zV (f:=fun F=>bdrun GlT jG (ac m) f.body F) (y_opt hF) ?_)
  show Yl (bdrun GlT jG (ac m) f.body F) P fl.val Q
  rw[hb]
  exact zV (f:=fun p=>zH p.1.val) (h m (Nat.le_of_succ_le_succ hn)) wQ
end
end
section
set_option backward.match.sparseCases false
open PySem
theorem lt62 {a:Nat}(h:a≤line):(a:Int)<2 ^ 62:=by
  have:a<2 ^ 62:=Nat.lt_of_le_of_lt h (by decide)
  omega
theorem part_nat {a:Nat}(h:a≤line):part (.int (a:Nat))=some (some (a:Int)):=by
  unfold part
  dsimp only
  rw[decide_eq_true (Int.le_trans (by decide) (Int.natCast_nonneg a)),decide_eq_true (lt62 h)]
  rfl
theorem cut_to {α:Type}{xs:List α}{b:Nat}:cut xs none (some (b:Int))=xs.take b:=by
  show(xs.take (clipAt xs.length (b:Int))).drop 0=_
  rw[clipAt_nat,List.drop_zero,←List.take_eq_take_min]
theorem cut_ab {α:Type}{xs:List α}{a b:Nat}(h:a≤xs.length):cut xs (some (a:Int)) (some (b:Int))=(xs.take b).drop a:=by
  show(xs.take (clipAt xs.length (b:Int))).drop (clipAt xs.length (a:Int))=_
  rw[clipAt_nat,clipAt_nat,Nat.min_eq_left h,←List.take_eq_take_min]
theorem cut_from {α:Type}{xs:List α}{a:Nat}(h:a≤xs.length):cut xs (some (a:Int)) none=xs.drop a:=by
  show(xs.take xs.length).drop (clipAt xs.length (a:Int))=_
  rw[clipAt_nat,Nat.min_eq_left h,List.take_length]
theorem set_cut {α:Type}{xs:List α}{i:Nat}{v:α}(h:i<xs.length):xs.take i++[v]++xs.drop (i+1)=xs.set i v:=by
  rw[List.set_eq_take_append_cons_drop,if_pos h,List.append_assoc];rfl
theorem sub1 (i:Nat):((i+1:Nat):Int)-1=(i:Int):=Int.add_sub_cancel (i:Int) 1
theorem zslc_str {H:AH}{cs:List Nat}{a b:Nat}(ha:a≤cs.length)(hb:b≤line)(hl:cs.length≤line):aslc H (.str cs) (.int (a:Nat)) (.int (b:Nat))=some (.str ((cs.take b).drop a)):=by
  show(part _).bind (fun l=>(part _).bind fun h=>aif (cs.length≤line) (AV.str (cut cs l h)))=_
  rw[part_nat (Nat.le_trans ha hl),part_nat hb]
  show aif (cs.length≤line) (AV.str (cut cs (some (a:Int)) (some (b:Int))))=_
  rw[ZG hl,cut_ab ha]
section
variable {K:Nat}{F:AF}{P Q R S:HP}{e a b:XE}{x y z w:AV}
theorem ye_slc (h:Ye K F e P x Q)(k:Ye K F a Q y R)(l:Ye K F b R z S)(q:∀ H,S H→aslc H x y z=some w):Ye K F (n_slc e (some a) (some b)) P w S:=fun n hn =>
  zV (f:=fun x=>zZ (a.ev GlT (ac n) F) fun l=>zZ (b.ev GlT (ac n) F) fun h=>aread fun H=>aslc H x l h) (h n hn) (zV (f:=fun l=>zZ (b.ev GlT (ac n) F) fun h=>aread fun H=>aslc H x l h) (k n hn) (zV (f:=fun h=>aread fun H=>aslc H x y h) (l n hn) (y_read q)))
theorem ye_slt (h:Ye K F e P x Q)(l:Ye K F b Q z S)(q:∀ H,S H→aslc H x .none z=some w):Ye K F (n_slc e none (some b)) P w S:=fun n hn =>
  zV (f:=fun x=>zZ (zH AV.none) fun l=>zZ (b.ev GlT (ac n) F) fun h=>aread fun H=>aslc H x l h) (h n hn) (zV (f:=fun l=>zZ (b.ev GlT (ac n) F) fun h=>aread fun H=>aslc H x l h) wQ (zV (f:=fun h=>aread fun H=>aslc H x .none h) (l n hn) (y_read q)))
theorem ye_slf (h:Ye K F e P x Q)(k:Ye K F a Q y R)(q:∀ H,R H→aslc H x y .none=some w):Ye K F (n_slc e (some a) none) P w R:=fun n hn =>
  zV (f:=fun x=>zZ (a.ev GlT (ac n) F) fun l=>zZ (zH AV.none) fun h=>aread fun H=>aslc H x l h) (h n hn) (zV (f:=fun l=>zZ (zH AV.none) fun h=>aread fun H=>aslc H x l h) (k n hn) (zV (f:=fun h=>aread fun H=>aslc H x y h) wQ (y_read q)))
end
section
variable {K:Nat}{F:AF}{P Q R:HP}{names:List (List Nat)}{elt:XE}{t:XT}{src:XI}{ifs:List XE}{caps:List (Nat×Nat)}{xs ys:List AV}{l:List (Nat×AV)}
noncomputable abbrev cfN (n:Nat)(names:List (List Nat))(elt:XE)(t:XT)(ifs:List XE)(l:List (Nat×AV)):AV→AM (Option AV):=cf (t.st GlT (ac n)) (fun F=>ands GlT (ac n) F ifs) (fun F=>elt.ev GlT (ac n) F) (putCaps (List.replicate names.length none) l)
theorem y_comp {n:Nat}(h1:Yl (src.sr GlT (ac n) F) P xs Q)(h2:capsOf F caps=some l)(h3:Yl (acomp (cfN n names elt t ifs l) xs) Q ys R)(h4:ys.length≤line):Yl (evComp GlT (ac n) F names elt t src ifs caps) P (.lst ys) R :=
  zV (f:=fun xs=>zZ (jW (capsOf F caps)) fun l=>zZ (acomp (cfN n names elt t ifs l) xs) fun ys=>zZ (jW (aif (ys.length≤line) ())) fun q_=>zH (AV.lst ys)) h1
    (zV (f:=fun l=>zZ (acomp (cfN n names elt t ifs l) xs) fun ys=>zZ (jW (aif (ys.length≤line) ())) fun q_=>zH (AV.lst ys)) (y_opt h2)
      (zV (f:=fun ys=>zZ (jW (aif (ys.length≤line) ())) fun q_=>zH (AV.lst ys)) h3 (zV (f:=fun q_=>zH (AV.lst ys)) (y_aif h4) wQ)))
theorem yx_acomp {i:Nat}(h:∀ n,K≤n→Yl (evComp GlT (ac n) F names elt t src ifs caps) P (.lst ys) Q)(hi:i<F.length):Yx K F (s_acomp i names elt t src ifs caps) P (F.set i (some (.lst ys))) Q:=fun n hn =>
  zV (f:=fun v=>zZ (jW (aif (i<F.length) ())) fun q_=>zH (Flo.next,F.set i (some v))) (h n hn) (zV (f:=fun q_=>zH (Flo.next,F.set i (some (.lst ys)))) (y_aif hi) wQ)
end
section
variable {n:Nat}{F:AF}{P Q R:HP}{a b:XE}{i j:Int}
theorem y_rng2 (h:Yl (a.ev GlT (ac n) F) P (.int i) Q)(k:Yl (b.ev GlT (ac n) F) Q (.int j) R)(q:(small i&&small j)=true):Yl ((i_range2 a b).sr GlT (ac n) F) P (ZC i j) R :=
  zV (f:=fun v=>zZ (b.ev GlT (ac n) F) fun w=>zZ (jW (wY v)) fun i=>zZ (jW (wY w)) fun j=>zZ (jW (aif ((small i&&small j)=true) ())) fun q_=>zH (ZC i j)) h
    (zV (f:=fun w=>zZ (jW (wY (.int i))) fun i=>zZ (jW (wY w)) fun j=>zZ (jW (aif ((small i&&small j)=true) ())) fun q_=>zH (ZC i j)) k
      (zV (f:=fun i=>zZ (jW (wY (.int j))) fun j=>zZ (jW (aif ((small i&&small j)=true) ())) fun q_=>zH (ZC i j)) (v:=i) (y_opt rfl)
        (zV (f:=fun j=>zZ (jW (aif ((small i&&small j)=true) ())) fun q_=>zH (ZC i j)) (v:=j) (y_opt rfl) (zV (f:=fun q_=>zH (ZC i j)) (y_aif q) wQ))))
theorem y_rng1 (h:Yl (a.ev GlT (ac n) F) P (.int i) Q)(q:small i=true):Yl ((i_range1 a).sr GlT (ac n) F) P (ZC 0 i) Q :=
  zV (f:=fun v=>zZ (jW (wY v)) fun i=>zZ (jW (aif (small i=true) ())) fun q_=>zH (ZC 0 i)) h
    (zV (f:=fun i=>zZ (jW (aif (small i=true) ())) fun q_=>zH (ZC 0 i)) (v:=i) (y_opt rfl) (zV (f:=fun q_=>zH (ZC 0 i)) (y_aif q) wQ))
theorem yx_for {K:Nat}{t:XT}{src:XI}{body:List XS}{xs:List AV}{F':AF}(h:∀ n,Yl (src.sr GlT (ac n) F) P xs Q)(k:∀ n,K≤n→Yl (afor (fun x F=>zZ (t.st GlT (ac n) x F) fun F'=>exs GlT (ac n) jG body F') xs F) Q (.next,F') R):Yx K F (s_for t src body) P F' R:=fun n hn =>
  zV (f:=fun xs=>afor (fun x F=>zZ (t.st GlT (ac n) x F) fun F'=>exs GlT (ac n) jG body F') xs F) (h n) (k n hn)
end
theorem add_nat (a b:Nat):abin .add (.int a) (.int b)=some (.int ((a+b:Nat):Int)):=rfl
theorem zslc_tupT {H:AH}{xs:List AV}{b:Nat}(hb:b≤line)(hl:xs.length≤line):aslc H (.tup xs) .none (.int (b:Nat))=some (.tup (xs.take b)):=by
  show(part .none).bind (fun l=>(part (.int (b:Nat))).bind fun h=>aif (xs.length≤line) (AV.tup (cut xs l h)))=_
  rw[part_nat hb]
  show aif (xs.length≤line) (AV.tup (cut xs none (some (b:Int))))=_
  rw[ZG hl,cut_to]
theorem zslc_lstT {H:AH}{xs:List AV}{b:Nat}(hb:b≤line)(hl:xs.length≤line):aslc H (.lst xs) .none (.int (b:Nat))=some (.lst (xs.take b)):=by
  show(part .none).bind (fun l=>(part (.int (b:Nat))).bind fun h=>aif (xs.length≤line) (AV.lst (cut xs l h)))=_
  rw[part_nat hb]
  show aif (xs.length≤line) (AV.lst (cut xs none (some (b:Int))))=_
  rw[ZG hl,cut_to]
theorem zslc_tupF {H:AH}{xs:List AV}{a:Nat}(ha:a≤xs.length)(hl:xs.length≤line):aslc H (.tup xs) (.int (a:Nat)) .none=some (.tup (xs.drop a)):=by
  show(part (.int (a:Nat))).bind (fun l=>(part .none).bind fun h=>aif (xs.length≤line) (AV.tup (cut xs l h)))=_
  rw[part_nat (Nat.le_trans ha hl)]
  show aif (xs.length≤line) (AV.tup (cut xs (some (a:Int)) none))=_
  rw[ZG hl,cut_from ha]
theorem zslc_lstF {H:AH}{xs:List AV}{a:Nat}(ha:a≤xs.length)(hl:xs.length≤line):aslc H (.lst xs) (.int (a:Nat)) .none=some (.lst (xs.drop a)):=by
  show(part (.int (a:Nat))).bind (fun l=>(part .none).bind fun h=>aif (xs.length≤line) (AV.lst (cut xs l h)))=_
  rw[part_nat (Nat.le_trans ha hl)]
  show aif (xs.length≤line) (AV.lst (cut xs (some (a:Int)) none))=_
  rw[ZG hl,cut_from ha]
theorem len_set {α:Type}{xs:List α}{i:Nat}{v:α}(h:i<xs.length):(xs.take i).length+1+(xs.drop (i+1)).length=xs.length:=by
  rw[List.length_take,List.length_drop,Nat.min_eq_left (Nat.le_of_lt h)]
  exact Nat.add_sub_cancel' h
theorem zadd_tup {xs:List AV}{i:Nat}{v:AV}(h:i<xs.length)(hl:xs.length≤line):(abin .add (.tup (xs.take i)) (.tup [v]))=some (.tup (xs.take i++[v]))∧abin .add (.tup (xs.take i++[v])) (.tup (xs.drop (i+1)))=some (.tup (xs.set i v)):=by
  have e:=len_set (v:=v) h
  refine⟨ZG (Nat.le_trans (Nat.le_add_right _ _) (Nat.le_trans (Nat.le_of_eq e) hl)),?_⟩
  rw[←set_cut h]
  exact ZG (by rw[List.length_append];exact Nat.le_trans (Nat.le_of_eq e) hl)
theorem zadd_lst {xs:List AV}{i:Nat}{v:AV}(h:i<xs.length)(hl:xs.length≤line):(abin .add (.lst (xs.take i)) (.lst [v]))=some (.lst (xs.take i++[v]))∧abin .add (.lst (xs.take i++[v])) (.lst (xs.drop (i+1)))=some (.lst (xs.set i v)):=by
  have e:=len_set (v:=v) h
  refine⟨ZG (Nat.le_trans (Nat.le_add_right _ _) (Nat.le_trans (Nat.le_of_eq e) hl)),?_⟩
  rw[←set_cut h]
  exact ZG (by rw[List.length_append];exact Nat.le_trans (Nat.le_of_eq e) hl)
theorem c_changed {xs:List AV}{i:Nat}{v:AV}{P:HP}(h:i<xs.length)(hl:xs.length≤line):Yc 1 (.fn 17) [.tup xs,.int (i:Nat),v] P (.tup (xs.set i v)) P :=
  ZJ (f:=f_changed) (F:=[some (.tup xs),some (.int (i:Nat)),some v]) rfl rfl (jJ (JK (JK (ye_slt (zW rfl) (zW rfl) fun H q_=>zslc_tupT (Nat.le_trans (Nat.le_of_lt h) hl) hl) (zW rfl) (zadd_tup h hl).1)
    (ye_slf (y := .int ((i+1:Nat):Int)) (zW rfl) (zW rfl) fun H q_=>zslc_tupF h hl) (zadd_tup h hl).2))
theorem c_behind {xs:List AV}{i:Nat}{x y:AV}{P:HP}(h:i<xs.length)(hl:xs.length≤line):Yc 1 (.fn 41) [.lst xs,.int ((i+1:Nat):Int),x,y] P (.lst (xs.set i (.tup [x,y]))) P :=
  ZJ (f:=f_law_behind_group) (F:=[some (.lst xs),some (.int ((i+1:Nat):Int)),some x,some y]) rfl rfl (jJ (JK (JK (ye_slt (z := .int (i:Nat)) (zW rfl) (JK (x := .int ((i+1:Nat):Int)) (y := .int 1) (zW rfl) (zW rfl) (congrArg (fun i=>some (AV.int i)) (sub1 i))) fun H q_=>zslc_lstT (Nat.le_trans (Nat.le_of_lt h) hl) hl) (zW rfl) (zadd_lst h hl).1)
    (ye_slf (y := .int ((i+1:Nat):Int)) (zW rfl) (zW rfl) fun H q_=>zslc_lstF h hl) (zadd_lst h hl).2))
end
section
set_option backward.match.sparseCases false
open PySem
noncomputable abbrev kSeq:AV := .str [115,101,113]
noncomputable abbrev kAlt:AV := .str [97,108,116]
noncomputable abbrev kGrp:AV := .str [103,114,111,117,112]
noncomputable abbrev JX:AV := .str [108,111,111,107]
noncomputable abbrev kBack:AV := .str [98,97,99,107]
noncomputable abbrev kRep:AV := .str [114,101,112,101,97,116]
noncomputable abbrev FM (t tx a g fl kv:AV)(k f m i:Option AV):AF:=[some t,some tx,some a,some g,some fl,some kv,k,f,m,i]
noncomputable abbrev FM0 (t tx a g fl kv:AV):AF:=FM t tx a g fl kv none none none none
noncomputable abbrev FM1 (t tx a g fl kv k:AV):AF:=FM t tx a g fl kv (some k) none none none
section
variable {K kc:Nat}{P:HP}{t u tx a g fl v w e m:AV}{ts ys:List AV}{l:List (Nat×AV)}
noncomputable abbrev kA (kc:Nat)(l:List (Nat×AV))(fl tx:AV)(ts:List AV):List (Nat×AV):=[(2,.clo kc l),(3,fl),(4,tx),(5,.tup ts)]
noncomputable abbrev FA (ts tx a g fl kv:AV):AF:=[some ts,some tx,some a,some g,some fl,some kv]
theorem l_seq (h:Yc K (.fn 39) [.tup ts,tx,a,g,fl,.clo kc l] P v P):Yc (K+1) (.fn 43) [.tup [kSeq,.tup ts],tx,a,g,fl,.clo kc l] P v P :=
  ZJ (f:=f_law_meets) (F:=FM0 (.tup [kSeq,.tup ts]) tx a g fl (.clo kc l)) rfl rfl
    (wU 1 (F1:=FM1 (.tup [kSeq,.tup ts]) tx a g fl (.clo kc l) kSeq) (by kernel_rfl) (wX (zW (by kernel_rfl)) (jJ (jD (f:=39) rfl (wW rfl) h))))
theorem l_all (hc:E0 (zD OpC.eq (zK (zB 39) [(zQ 0)]) (zX 0)) (FA (.tup (t::ts)) tx a g fl (.clo kc l))=V0 (.bool false))(h:Yc K (.fn 43) [t,tx,a,g,fl,.clo 0 (kA kc l fl tx (t::ts))] P v P) :
    Yc (K+1) (.fn 39) [.tup (t::ts),tx,a,g,fl,.clo kc l] P v P :=
  ZJ (f:=f_law_all) (F:=FA (.tup (t::ts)) tx a g fl (.clo kc l)) rfl rfl (ZV (zW hc) (jJ (jD (f:=43) rfl (wW (by kernel_rfl)) h)))
theorem l_seq1 (h:Yc K (.fn 43) [t,tx,a,g,fl,.clo 0 (kA kc l fl tx [t])] P v P):Yc (K+2) (.fn 43) [.tup [kSeq,.tup [t]],tx,a,g,fl,.clo kc l] P v P:=l_seq (l_all (by kernel_rfl) h)
theorem l_seq2 (h:Yc K (.fn 43) [t,tx,a,g,fl,.clo 0 (kA kc l fl tx [t,u])] P v P):Yc (K+2) (.fn 43) [.tup [kSeq,.tup [t,u]],tx,a,g,fl,.clo kc l] P v P:=l_seq (l_all (by kernel_rfl) h)
theorem l_k1 (h:Yc K (.clo kc l) [e,m] P v P):Yc (K+2) (.clo 0 (kA kc l fl tx [t])) [e,m] P v P :=
  yc_clo (f:=c_0) (F:=[some e,some m,some (.clo kc l),some fl,some tx,some (.tup [t])]) rfl rfl rfl (jD (f:=39) rfl (wW (vs:=[.tup [],tx,e,m,fl,.clo kc l]) (by kernel_rfl))
    (ZJ (f:=f_law_all) (F:=FA (.tup []) tx e m fl (.clo kc l)) rfl rfl (wX (zW (by kernel_rfl)) (jJ (ye_callk rfl (wW rfl) h)))))
theorem l_k2 (h:Yc K (.fn 43) [u,tx,e,m,fl,.clo 0 (kA kc l fl tx [u])] P v P):Yc (K+2) (.clo 0 (kA kc l fl tx [t,u])) [e,m] P v P :=
  yc_clo (f:=c_0) (F:=[some e,some m,some (.clo kc l),some fl,some tx,some (.tup [t,u])]) rfl rfl rfl (jD (f:=39) rfl (wW (vs:=[.tup [u],tx,e,m,fl,.clo kc l]) (by kernel_rfl)) (l_all (by kernel_rfl) h))
noncomputable abbrev FMf (t tx a g fl kv k f:AV):AF:=FM t tx a g fl kv (some k) (some f) none none
theorem l_alt (h:Yc K (.fn 43) [t,tx,a,g,fl,.clo kc l] P v P)(r:Ye K (FMf (.tup [kAlt,.tup [t,u]]) tx a g fl (.clo kc l) kAlt v) (n_ite (zD OpC.is (zQ 7) jV) (zK (zB 66) [(zA (zA (zQ 0) (zX 1)) (zX 1)),(zQ 1),(zQ 2),(zQ 3),(zQ 4),(zQ 5)]) (zQ 7)) P w P) :
    Yc (K+1) (.fn 43) [.tup [kAlt,.tup [t,u]],tx,a,g,fl,.clo kc l] P w P :=
  ZJ (f:=f_law_meets) (F:=FM0 (.tup [kAlt,.tup [t,u]]) tx a g fl (.clo kc l)) rfl rfl
    (wU 2 (F1:=FM1 (.tup [kAlt,.tup [t,u]]) tx a g fl (.clo kc l) kAlt) (by kernel_rfl) (wX (zW (by kernel_rfl))
      (zG (F1:=FMf (.tup [kAlt,.tup [t,u]]) tx a g fl (.clo kc l) kAlt v) (jK (jD (f:=43) rfl (wW rfl) h) (by show 7<10;decide)) (jJ r))))
theorem l_altN (h:Yc K (.fn 43) [t,tx,a,g,fl,.clo kc l] P .none P)(k:Yc K (.fn 43) [u,tx,a,g,fl,.clo kc l] P w P):Yc (K+1) (.fn 43) [.tup [kAlt,.tup [t,u]],tx,a,g,fl,.clo kc l] P w P :=
  l_alt h (ye_itet (zW (by kernel_rfl)) (jD (f:=43) rfl (wW rfl) k))
theorem l_altS (h:Yc K (.fn 43) [t,tx,a,g,fl,.clo kc l] P (.tup ys) P):Yc (K+1) (.fn 43) [.tup [kAlt,.tup [t,u]],tx,a,g,fl,.clo kc l] P (.tup ys) P:=l_alt h (zW (by kernel_rfl))
theorem l_gno (h:Yc K (.fn 43) [t,tx,a,g,fl,.clo kc l] P v P):Yc (K+1) (.fn 43) [.tup [kGrp,.none,t],tx,a,g,fl,.clo kc l] P v P :=
  ZJ (f:=f_law_meets) (F:=FM0 (.tup [kGrp,.none,t]) tx a g fl (.clo kc l)) rfl rfl
    (wU 3 (F1:=FM1 (.tup [kGrp,.none,t]) tx a g fl (.clo kc l) kGrp) (by kernel_rfl) (wX (zW (by kernel_rfl)) (wX (zW (by kernel_rfl)) (jJ (jD (f:=43) rfl (wW rfl) h)))))
noncomputable abbrev kG (kc:Nat)(l:List (Nat×AV))(a:AV)(i:Nat):List (Nat×AV):=[(2,a),(3,.clo kc l),(4,.int ((i+1:Nat):Int))]
theorem l_grp {i:Nat}(h:Yc K (.fn 43) [t,tx,a,g,fl,.clo 2 (kG kc l a i)] P v P):Yc (K+1) (.fn 43) [.tup [kGrp,.int ((i+1:Nat):Int),t],tx,a,g,fl,.clo kc l] P v P :=
  ZJ (f:=f_law_meets) (F:=FM0 (.tup [kGrp,.int ((i+1:Nat):Int),t]) tx a g fl (.clo kc l)) rfl rfl
    (wU 3 (F1:=FM1 (.tup [kGrp,.int ((i+1:Nat):Int),t]) tx a g fl (.clo kc l) kGrp) (by kernel_rfl) (wX (zW (by kernel_rfl)) (wU 2 (F1:=FM (.tup [kGrp,.int ((i+1:Nat):Int),t]) tx a g fl (.clo kc l) (some kGrp) none (some (.int ((i+1:Nat):Int))) none) (by kernel_rfl) (jJ (jD (f:=43) rfl (wW (by kernel_rfl)) h)))))
theorem l_k3 {i:Nat}{gs:List AV}(hi:i<gs.length)(hl:gs.length≤line)(h:Yc (K+1) (.clo kc l) [e,.lst (gs.set i (.tup [a,e]))] P v P):Yc (K+2) (.clo 2 (kG kc l a i)) [e,.lst gs] P v P :=
  yc_clo (f:=c_2) (F:=[some e,some (.lst gs),some a,some (.clo kc l),some (.int ((i+1:Nat):Int))]) rfl rfl rfl
    (ye_callk rfl (zY (zW rfl) (zY (jD (f:=41) rfl (wW rfl) ((c_behind hi hl).mono (Nat.succ_le_succ (Nat.zero_le K)))) jF)) h)
theorem l_k4:Yc 1 (.clo 3 []) [e,m] P (.tup [e,m]) P:=yc_clo (f:=c_3) (F:=[some e,some m]) rfl rfl rfl (zW rfl)
noncomputable abbrev lkT:List XS:=[(wB (zA (zQ 0) (zX 1)) [(jX (n_ite (zD OpC.is (zQ 7) jV) (zK (zQ 5) [(zQ 2),(zQ 3)]) jV))] []),(jX (n_ite (zD OpC.is (zQ 7) jV) jV (zK (zQ 5) [(zQ 2),(zA (zQ 7) (zX 1))])))]
theorem l_look {o:Bool}{F':AF}(h:Yc K (.fn 43) [t,tx,a,g,fl,.clo 3 []] P v P)(r:Ys K (FMf (.tup [JX,.bool o,t]) tx a g fl (.clo kc l) JX v) lkT P (.ret w) F' P) :
    Yc (K+1) (.fn 43) [.tup [JX,.bool o,t],tx,a,g,fl,.clo kc l] P w P :=
  ZJ (f:=f_law_meets) (F:=FM0 (.tup [JX,.bool o,t]) tx a g fl (.clo kc l)) rfl rfl
    (wU 4 (F1:=FM1 (.tup [JX,.bool o,t]) tx a g fl (.clo kc l) JX) (by kernel_rfl) (wX (zW (by kernel_rfl))
      (zG (F1:=FMf (.tup [JX,.bool o,t]) tx a g fl (.clo kc l) JX v) (jK (jD (f:=43) rfl (wW (by kernel_rfl)) h) (by show 7<10;decide)) r)))
theorem l_lookTN (h:Yc K (.fn 43) [t,tx,a,g,fl,.clo 3 []] P .none P)(k:Yc K (.clo kc l) [a,g] P w P):Yc (K+1) (.fn 43) [.tup [JX,.bool true,t],tx,a,g,fl,.clo kc l] P w P :=
  l_look h (wX (zW (by kernel_rfl)) (jJ (ye_itet (zW (by kernel_rfl)) (ye_callk rfl (wW rfl) k))))
theorem l_lookTS (h:Yc K (.fn 43) [t,tx,a,g,fl,.clo 3 []] P (.tup ys) P):Yc (K+1) (.fn 43) [.tup [JX,.bool true,t],tx,a,g,fl,.clo kc l] P .none P :=
  l_look h (wX (zW (by kernel_rfl)) (jJ (zW (by kernel_rfl))))
theorem l_lookFN (h:Yc K (.fn 43) [t,tx,a,g,fl,.clo 3 []] P .none P):Yc (K+1) (.fn 43) [.tup [JX,.bool false,t],tx,a,g,fl,.clo kc l] P .none P :=
  l_look h (ZV (zW (by kernel_rfl)) (jJ (zW (by kernel_rfl))))
theorem l_lookFS (h:Yc K (.fn 43) [t,tx,a,g,fl,.clo 3 []] P (.tup [e,m]) P)(k:Yc K (.clo kc l) [a,m] P w P):Yc (K+1) (.fn 43) [.tup [JX,.bool false,t],tx,a,g,fl,.clo kc l] P w P :=
  l_look h (ZV (zW (by kernel_rfl)) (jJ (ye_itef (zW (by kernel_rfl)) (ye_callk rfl (wW (by kernel_rfl)) k))))
noncomputable abbrev sgE:XE:=ZH [(zD OpC.lt (zQ 2) (zK (zB 39) [(zQ 1)])),(zK (zB 61) [(zQ 0),(zA (zQ 1) (zQ 2)),(zQ 4)])]
theorem l_sign {k:AV}{b:Bool}(h0:X0 (f_law_meets.body.take 7) (FM0 t tx a g fl (.clo kc l))=V0 (.next,FM1 t tx a g fl (.clo kc l) k))
    (h1:E0 (zD OpC.isIn (zQ 6) (jC [(jA [99,104,97,114]),(jA [97,110,121]),(jA [99,108,97,115,115])])) (FM1 t tx a g fl (.clo kc l) k)=V0 (.bool true))
    (h2:Ye K (FM1 t tx a g fl (.clo kc l) k) sgE P (.bool b) P) (r:Ye K (FM t tx a g fl (.clo kc l) (some k) none none (some (.bool b))) (n_ite (zQ 9) (zK (zQ 5) [(jZ Op2.add (zQ 2) (zX 1)),(zQ 3)]) jV) P w P) :
    Yc (K+1) (.fn 43) [t,tx,a,g,fl,.clo kc l] P w P :=
  ZJ (f:=f_law_meets) (F:=FM0 t tx a g fl (.clo kc l)) rfl rfl (wU 7 h0 (wX (zW h1) (zG (F1:=FM t tx a g fl (.clo kc l) (some k) none none (some (.bool b))) (jK h2 (by show 9<10;decide)) (jJ r))))
theorem l_place {k:AV}(h0:X0 (f_law_meets.body.take 8) (FM0 t tx a g fl (.clo kc l))=V0 (.next,FM1 t tx a g fl (.clo kc l) k))
    (r:Ye K (FM1 t tx a g fl (.clo kc l) k) (n_ite (zK (zB 60) [(zQ 0),(zQ 1),(zQ 2),(zQ 4)]) (zK (zQ 5) [(zQ 2),(zQ 3)]) jV) P w P):Yc (K+1) (.fn 43) [t,tx,a,g,fl,.clo kc l] P w P :=
  ZJ (f:=f_law_meets) (F:=FM0 t tx a g fl (.clo kc l)) rfl rfl (wU 8 h0 (jJ r))
theorem l_placeT {k:AV}(h0:X0 (f_law_meets.body.take 8) (FM0 t tx a g fl (.clo kc l))=V0 (.next,FM1 t tx a g fl (.clo kc l) k))(h:Yc K (.fn 37) [t,tx,a,fl] P (.bool true) P)(r:Yc K (.clo kc l) [a,g] P w P) :
    Yc (K+1) (.fn 43) [t,tx,a,g,fl,.clo kc l] P w P:=l_place h0 (ye_itet (jD (f:=37) rfl (wW rfl) h) (ye_callk rfl (wW rfl) r))
theorem l_placeF {k:AV}(h0:X0 (f_law_meets.body.take 8) (FM0 t tx a g fl (.clo kc l))=V0 (.next,FM1 t tx a g fl (.clo kc l) k))(h:Yc K (.fn 37) [t,tx,a,fl] P (.bool false) P) :
    Yc (K+1) (.fn 43) [t,tx,a,g,fl,.clo kc l] P .none P:=l_place h0 (ye_itef (jD (f:=37) rfl (wW rfl) h) (zW rfl))
theorem l_back {k:AV}(h:Yc K (.fn 42) [.tup [kBack,k],tx,a,g,fl,.clo kc l] P v P):Yc (K+1) (.fn 43) [.tup [kBack,k],tx,a,g,fl,.clo kc l] P v P :=
  ZJ (f:=f_law_meets) (F:=FM0 (.tup [kBack,k]) tx a g fl (.clo kc l)) rfl rfl
    (wU 5 (F1:=FM1 (.tup [kBack,k]) tx a g fl (.clo kc l) kBack) (by kernel_rfl) (wX (zW (by kernel_rfl)) (jJ (jD (f:=42) rfl (wW rfl) h))))
theorem l_rep (h:Yc K (.fn 40) [.tup (kRep::ts),tx,a,g,fl,.clo kc l,.int 0] P v P):Yc (K+1) (.fn 43) [.tup (kRep::ts),tx,a,g,fl,.clo kc l] P v P :=
  ZJ (f:=f_law_meets) (F:=FM0 (.tup (kRep::ts)) tx a g fl (.clo kc l)) rfl rfl
    (wU 6 (F1:=FM1 (.tup (kRep::ts)) tx a g fl (.clo kc l) kRep) (by kernel_rfl) (wX (zW (by kernel_rfl)) (jJ (jD (f:=40) rfl (wW rfl) h))))
end
end
section
set_option backward.match.sparseCases false
open PySem
noncomputable def mp {α β:Type}(f:α→β)(l:List α):List β:=@List.rec α (fun q_=>List β) [] (fun a q_ ih=>f a::ih) l
theorem at_map {α β:Type}{f g:α→β}:∀ {l:List α},l.map f=mp g l→∀ {x:α},x∈l→f x=g x
  | a::r,h,x,m=>by
    have q:=List.cons.inj (show f a::r.map f=g a::mp g r from h)
    rcases List.mem_cons.mp m with rfl | m
    · exact q.1
    · exact at_map q.2 m
noncomputable abbrev LT:List Nat:=[97,98,10,65]
noncomputable abbrev FLs:List (List Nat):=[[],[105],[109],[105,109]]
noncomputable def icOf (fl:List Nat):Bool:=fl.any fun d=>decide (105=d)
noncomputable def mlOf (fl:List Nat):Bool:=fl.any fun d=>decide (109=d)
noncomputable def eqc (ic:Bool)(c d:Nat):Bool:=Nat.beq c d||(ic&&Nat.beq (upperOf c) (upperOf d))
theorem same_tab (n:Nat)(H:AH):(LT.map fun c=>LT.map fun d=>FLs.map fun fl=>ac (n+1) (.fn 35) [.str [c],.str [d],.str fl] H)=mp (fun c=>mp (fun d=>mp (fun fl=>some (.bool (eqc (icOf fl) c d),H)) FLs) LT) LT:=by kernel_rfl
theorem c_same {c d:Nat}{fl:List Nat}{P:HP}(hc:c∈LT)(hd:d∈LT)(hf:fl∈FLs):Yc 1 (.fn 35) [.str [c],.str [d],.str fl] P (.bool (eqc (icOf fl) c d)) P:=fun n hn=>by
  obtain⟨m,rfl⟩:∃ m,n=m+1:=⟨n-1,(Nat.succ_pred_eq_of_pos hn).symm⟩
  refine wD fun H=>?_
  have q:=at_map (at_map (at_map (same_tab m H) hc) hd) hf
  exact q
theorem at_nat {α:Type}{xs:List α}{i:Nat}(h:i≤line):at? xs (i:Nat)=xs[i]?:=by
  unfold at?
  rw[if_pos (Int.natCast_nonneg i),if_pos (lt62 h)];rfl
theorem zsub_lst {H:AH}{xs:List AV}{i:Nat}{x:AV}(h:i≤line)(e:xs[i]? = some x):asub H (.lst xs) (.int (i:Nat))=some x:=by
  unfold asub
  refine(Option.bind_some ..).trans ?_
  dsimp only
  rw[at_nat h];exact e
theorem zsub_tup {H:AH}{xs:List AV}{i:Nat}{x:AV}(h:i≤line)(e:xs[i]? = some x):asub H (.tup xs) (.int (i:Nat))=some x:=by
  unfold asub
  refine(Option.bind_some ..).trans ?_
  dsimp only
  rw[at_nat h];exact e
section
variable {K:Nat}{F:AF}{P Q:HP}{e:XE}{s:List Nat}{xs:List AV}
theorem JJ (h:Ye K F e P (.str s) Q)(hs:s.length≤line):Ye K F (zK (zB 39) [e]) P (.int s.length) Q :=
  ye_bi (f := .len) rfl (zY h jF) fun H q_=>ZG hs
theorem ye_lenT (h:Ye K F e P (.tup xs) Q)(hs:xs.length≤line):Ye K F (zK (zB 39) [e]) P (.int xs.length) Q :=
  ye_bi (f := .len) rfl (zY h jF) fun H q_=>ZG hs
end
theorem lt_t {a b:Nat}(h:a<b):JW .lt (.int (a:Nat)) (.int (b:Nat))=some true:=congrArg some (decide_eq_true (Int.ofNat_lt.mpr h))
theorem lt_f {a b:Nat}(h:b≤a):JW .lt (.int (a:Nat)) (.int (b:Nat))=some false:=congrArg some (decide_eq_false (Int.not_lt.mpr (Int.ofNat_le.mpr h)))
theorem ge_t {a b:Nat}(h:b≤a):JW .ge (.int (a:Nat)) (.int (b:Nat))=some true:=congrArg some (decide_eq_true (Int.ofNat_le.mpr h))
theorem ge_f {a b:Nat}(h:a<b):JW .ge (.int (a:Nat)) (.int (b:Nat))=some false:=congrArg some (decide_eq_false (Int.not_le.mpr (Int.ofNat_lt.mpr h)))
theorem gt_t {a b:Nat}(h:b<a):JW .gt (.int (a:Nat)) (.int (b:Nat))=some true:=congrArg some (decide_eq_true (Int.ofNat_lt.mpr h))
theorem gt_f {a b:Nat}(h:a≤b):JW .gt (.int (a:Nat)) (.int (b:Nat))=some false:=congrArg some (decide_eq_false (Int.not_lt.mpr (Int.ofNat_le.mpr h)))
theorem eq_t {a b:Nat}(h:a=b):JW .eq (.int (a:Nat)) (.int (b:Nat))=some true:=congrArg some (decide_eq_true (congrArg Int.ofNat h))
theorem eq_f {a b:Nat}(h:a≠b):JW .eq (.int (a:Nat)) (.int (b:Nat))=some false:=congrArg some (decide_eq_false fun q=>h (Int.ofNat.inj q))
noncomputable def misL (fl:List Nat)(ps:List (Nat×Nat)):List AV:=@List.rec _ (fun q_=>List AV) [] (fun p q_ ih=>if eqc (icOf fl) p.1 p.2=true then ih else AV.int 1::ih) ps
noncomputable abbrev prA (p:Nat×Nat):AV := .tup [.str [p.1],.str [p.2]]
noncomputable abbrev bkC:XE:=n_comp [[111,110,101],[111,116,104,101,114],[102,108,97,103,115]] (zX 1) (t_tup [(zC 0 false),(zC 1 false)]) (i_zip (zQ 7) (zQ 8)) [(n_not (zK (zB 58) [(zQ 0),(zQ 1),(zQ 2)]))] [(4,2)]
noncomputable abbrev bkF (n:Nat)(fl:List Nat):AV→AM (Option AV):=cf ((t_tup [(zC 0 false),(zC 1 false)]).st GlT (ac n)) (fun F=>ands GlT (ac n) F [(n_not (zK (zB 58) [(zQ 0),(zQ 1),(zQ 2)]))]) (fun F=>(zX 1).ev GlT (ac n) F) [none,none,some (.str fl)]
theorem zip_str:∀ (w h:List Nat),zipOf (w.map fun c => .str [c]) (h.map fun c => .str [c])=(w.zip h).map prA
  | [],_=>rfl
  | _::_,[]=>rfl
  | a::w,b::h=>congrArg (prA (a,b)::·) (zip_str w h)
theorem bk_one {n:Nat}{fl:List Nat}{p:Nat×Nat}{P:HP}(hn:1≤n)(h1:p.1∈LT)(h2:p.2∈LT)(hf:fl∈FLs):Yl (bkF n fl (prA p)) P (if eqc (icOf fl) p.1 p.2=true then none else some (AV.int 1)) P :=
  zV (f:=fun F'=>zZ (ands GlT (ac n) F' [(n_not (zK (zB 58) [(zQ 0),(zQ 1),(zQ 2)]))]) fun b=>zZ (jW (wH b)) fun t=>if t then zZ ((zX 1).ev GlT (ac n) F') (fun v=>zH (some v)) else zH none) (v:=[some (.str [p.1]),some (.str [p.2]),some (.str fl)]) (wD fun H=>rfl)
    (zV (f:=fun b=>zZ (jW (wH b)) fun t=>if t then zZ ((zX 1).ev GlT (ac n) [some (.str [p.1]),some (.str [p.2]),some (.str fl)]) (fun v=>zH (some v)) else zH none) (ye_and1 (ye_not (jD (a:=zB 58) (es:=[(zQ 0),(zQ 1),(zQ 2)]) (f:=35) rfl (wW rfl) (c_same h1 h2 hf))) n hn)
      (by cases eqc (icOf fl) p.1 p.2 <;> exact wD fun H=>rfl))
theorem misL_le (fl:List Nat):∀ ps:List (Nat×Nat),(misL fl ps).length≤ps.length
  | []=>Nat.le_refl _
  | p::ps=>by
    show(if eqc (icOf fl) p.1 p.2=true then misL fl ps else AV.int 1::misL fl ps).length≤_
    cases eqc (icOf fl) p.1 p.2
    · exact Nat.succ_le_succ (misL_le fl ps)
    · exact Nat.le_succ_of_le (misL_le fl ps)
theorem bk_comp {n:Nat}{fl:List Nat}{P:HP}(hn:1≤n)(hf:fl∈FLs):∀ (ps:List (Nat×Nat)),(∀ p∈ps,p.1∈LT∧p.2∈LT)→Yl (acomp (bkF n fl) (ps.map prA)) P (misL fl ps) P
  | [],_=>wQ
  | p :: ps,h=>by
    refine zV (f:=fun o=>zZ (acomp (bkF n fl) (ps.map prA)) fun l=>zH (match o with
      | some v=>v::l
      | none=>l)) (bk_one (P:=P) hn (h p (.head _)).1 (h p (.head _)).2 hf) (zV (bk_comp hn hf ps fun q m=>h q (.tail _ m)) ?_)
    show Yl _ P (if eqc (icOf fl) p.1 p.2=true then misL fl ps else AV.int 1::misL fl ps) P
    cases eqc (icOf fl) p.1 p.2 <;> exact wQ
noncomputable abbrev FB (t tx a g fl kv:AV)(k w h:Option AV):AF:=[some t,some tx,some a,some g,some fl,some kv,k,w,h]
section
variable {K kc:Nat}{P:HP}{v:AV}{l:List (Nat×AV)}{cs fl w:List Nat}{a i:Nat}{gs:List AV}{x:AV}{F':AF}
noncomputable abbrev hereL (cs w:List Nat)(a:Nat):List Nat:=(cs.take (a+w.length)).drop a
noncomputable abbrev FBw (i a:Nat)(gs:List AV)(cs fl w:List Nat)(kc:Nat)(l:List (Nat×AV))(x:AV):AF:=FB (.tup [kBack,.int ((i+1:Nat):Int)]) (.str cs) (.int a) (.lst gs) (.str fl) (.clo kc l) (some x) (some (.str w)) (some (.str (hereL cs w a)))
theorem l_met (hi:i≤line)(hx:gs[i]? = some x)(hw:Ye K (FB (.tup [kBack,.int ((i+1:Nat):Int)]) (.str cs) (.int a) (.lst gs) (.str fl) (.clo kc l) (some x) none none) (n_ite (zD OpC.is (zQ 6) jV) (jA []) (n_slc (zQ 1) (some (zA (zQ 6) (zX 0))) (some (zA (zQ 6) (zX 1))))) P (.str w) P)
    (ha:a≤cs.length) (hl:a+w.length≤line) (hc:cs.length≤line) (r:Ys K (FBw i a gs cs fl w kc l x) (f_law_met_again.body.drop 3) P (.ret v) F' P):Yc (K+1) (.fn 42) [.tup [kBack,.int ((i+1:Nat):Int)],.str cs,.int a,.lst gs,.str fl,.clo kc l] P v P :=
  ZJ (f:=f_law_met_again) (F:=FB (.tup [kBack,.int ((i+1:Nat):Int)]) (.str cs) (.int a) (.lst gs) (.str fl) (.clo kc l) none none none) rfl rfl
    (zG (F1:=FB (.tup [kBack,.int ((i+1:Nat):Int)]) (.str cs) (.int a) (.lst gs) (.str fl) (.clo kc l) (some x) none none) (jK (ye_sub (x := .lst gs) (y := .int i) (zW rfl) (JK (x := .int ((i+1:Nat):Int)) (y := .int 1) (zW rfl) (zW rfl) (congrArg (fun i=>some (AV.int i)) (sub1 i))) fun H q_=>zsub_lst hi hx) (by show 6<9;decide))
      (zG (F1:=FB (.tup [kBack,.int ((i+1:Nat):Int)]) (.str cs) (.int a) (.lst gs) (.str fl) (.clo kc l) (some x) (some (.str w)) none) (jK hw (by show 7<9;decide))
        (zG (F1:=FBw i a gs cs fl w kc l x) (jK (ye_slc (x := .str cs) (y := .int a) (z := .int ((a+w.length:Nat):Int)) (zW rfl) (zW rfl) (JK (x := .int a) (y := .int w.length) (zW rfl) (JJ (zW rfl) (Nat.le_trans (Nat.le_add_left _ _) hl)) (add_nat _ _)) fun H q_=>zslc_str ha hl hc) (by show 8<9;decide)) r)))
theorem here_le:(hereL cs w a).length≤w.length:=by
  show((cs.take (a+w.length)).drop a).length≤_
  rw[List.length_drop,List.length_take]
  exact Nat.sub_le_of_le_add (Nat.le_trans (Nat.min_le_left _ _) (Nat.le_of_eq (Nat.add_comm _ _)))
noncomputable abbrev bkO:List XE:=[(zD OpC.lt (zK (zB 39) [(zQ 8)]) (zK (zB 39) [(zQ 7)])),(zD OpC.ne bkC (n_lst false []))]
theorem l_metS (hl:w.length≤line)(h:(hereL cs w a).length<w.length):Ys K (FBw i a gs cs fl w kc l x) (f_law_met_again.body.drop 3) P (.ret .none) (FBw i a gs cs fl w kc l x) P :=
  wX (ye_ort (jY (JJ (zW rfl) (Nat.le_trans (Nat.le_of_lt h) hl)) (JJ (zW rfl) hl) (lt_t h))) (jJ (zW rfl))
theorem bk_ev (hK:1≤K)(hf:fl∈FLs)(hl:w.length≤line)(hp:∀ p∈w.zip (hereL cs w a),p.1∈LT∧p.2∈LT):Ye K (FBw i a gs cs fl w kc l x) bkC P (.lst (misL fl (w.zip (hereL cs w a)))) P:=fun n hn =>
  y_comp (F:=FBw i a gs cs fl w kc l x) (src:=i_zip (zQ 7) (zQ 8)) (caps:=[(4,2)]) (names:=[[111,110,101],[111,116,104,101,114],[102,108,97,103,115]]) (xs:=(w.zip (hereL cs w a)).map prA) (l:=[(2,.str fl)]) (by rw[←zip_str];exact wD fun H=>rfl) rfl (bk_comp (Nat.le_trans hK hn) hf _ hp) (Nat.le_trans (misL_le _ _) (Nat.le_trans (by rw[List.length_zip];exact Nat.min_le_left _ _) hl))
theorem l_metC {b:Bool}(hK:1≤K)(hf:fl∈FLs)(hl:w.length≤line)(hp:∀ p∈w.zip (hereL cs w a),p.1∈LT∧p.2∈LT)(h:w.length≤(hereL cs w a).length)(hb:(misL fl (w.zip (hereL cs w a))).isEmpty=b):Ye K (FBw i a gs cs fl w kc l x) (n_or bkO) P (.bool !b) P :=
  ye_orf (jY (JJ (zW rfl) (Nat.le_trans here_le hl)) (JJ (zW rfl) hl) (lt_f h)) (ye_or1 (jY (y := .lst []) (bk_ev hK hf hl hp) (zW rfl) (by rw[←hb];rfl)))
theorem l_metD (hK:1≤K)(hf:fl∈FLs)(hl:w.length≤line)(hp:∀ p∈w.zip (hereL cs w a),p.1∈LT∧p.2∈LT)(h:w.length≤(hereL cs w a).length)(hb:(misL fl (w.zip (hereL cs w a))).isEmpty=false):Ys K (FBw i a gs cs fl w kc l x) (f_law_met_again.body.drop 3) P (.ret .none) (FBw i a gs cs fl w kc l x) P :=
  wX (l_metC hK hf hl hp h hb) (jJ (zW rfl))
theorem l_metT (hK:1≤K)(hf:fl∈FLs)(hl:w.length≤line)(hp:∀ p∈w.zip (hereL cs w a),p.1∈LT∧p.2∈LT)(h:w.length≤(hereL cs w a).length)(hb:(misL fl (w.zip (hereL cs w a))).isEmpty=true)(r:Yc K (.clo kc l) [.int ((a+w.length:Nat):Int),.lst gs] P v P):Ys K (FBw i a gs cs fl w kc l x) (f_law_met_again.body.drop 3) P (.ret v) (FBw i a gs cs fl w kc l x) P :=
  ZV (l_metC hK hf hl hp h hb) (jJ (ye_callk rfl (zY (JK (x := .int a) (y := .int w.length) (zW rfl) (JJ (zW rfl) hl) (add_nat _ _)) (wW rfl)) r))
end
end
section
set_option backward.match.sparseCases false
open PySem
noncomputable def mostA (m:Option Nat):AV:=@Option.rec Nat (fun q_=>AV) .none (fun m => .int m) m
noncomputable abbrev repT (least:Nat)(most:Option Nat)(lz:Bool)(t:AV)(f l:Nat):AV := .tup [kRep,.int least,mostA most,.bool lz,t,.int f,.int l]
noncomputable def clrA (f l:Nat)(gs:List AV):Nat→List AV:=@List.rec AV (fun q_=>Nat→List AV) (fun q_=>[]) (fun x q_ ih j=>(if f≤j+1∧j+1<l then AV.none else x)::ih (j+1)) gs
theorem clr_len (f l:Nat):∀ (gs:List AV)(j:Nat),(clrA f l gs j).length=gs.length
  | [],_=>rfl
  | _::r,j=>congrArg (· + 1) (clr_len f l r (j+1))
section
variable {K kc:Nat}{F:AF}{P Q R S:HP}{e a b c:XE}{x y z:AV}
theorem ye_cmp2t {o p:OpC}{t:Bool}(h:Ye K F a P x Q)(k:Ye K F b Q y R)(q:JW o x y=some true)(h3:Ye K F c R z S)(q2:JW p y z=some t):Ye K F (n_cmp2 o p a b c) P (.bool t) S:=fun n hn =>
  zV (f:=fun x=>zZ (b.ev GlT (ac n) F) fun y=>zZ (jW (JW o x y)) fun t=>if t then zZ (c.ev GlT (ac n) F) fun z=>jW ((JW p y z).map AV.bool) else zH (.bool false)) (h n hn)
    (zV (f:=fun y=>zZ (jW (JW o x y)) fun t=>if t then zZ (c.ev GlT (ac n) F) fun z=>jW ((JW p y z).map AV.bool) else zH (.bool false)) (k n hn)
      (zV (f:=fun t=>if t then zZ (c.ev GlT (ac n) F) fun z=>jW ((JW p y z).map AV.bool) else zH (AV.bool false)) (y_opt q) (zV (f:=fun z=>jW ((JW p y z).map AV.bool)) (h3 n hn) (y_opt (congrArg (Option.map AV.bool) q2)))))
theorem ye_cmp2f {o p:OpC}(h:Ye K F a P x Q)(k:Ye K F b Q y R)(q:JW o x y=some false):Ye K F (n_cmp2 o p a b c) P (.bool false) R:=fun n hn =>
  zV (f:=fun x=>zZ (b.ev GlT (ac n) F) fun y=>zZ (jW (JW o x y)) fun t=>if t then zZ (c.ev GlT (ac n) F) fun z=>jW ((JW p y z).map AV.bool) else zH (.bool false)) (h n hn)
    (zV (f:=fun y=>zZ (jW (JW o x y)) fun t=>if t then zZ (c.ev GlT (ac n) F) fun z=>jW ((JW p y z).map AV.bool) else zH (.bool false)) (k n hn)
      (zV (f:=fun t=>if t then zZ (c.ev GlT (ac n) F) fun z=>jW ((JW p y z).map AV.bool) else zH (AV.bool false)) (y_opt q) wQ))
end
theorem le_t {a b:Nat}(h:a≤b):JW .le (.int (a:Nat)) (.int (b:Nat))=some true:=congrArg some (decide_eq_true (Int.ofNat_le.mpr h))
theorem le_f {a b:Nat}(h:b<a):JW .le (.int (a:Nat)) (.int (b:Nat))=some false:=congrArg some (decide_eq_false (Int.not_le.mpr (Int.ofNat_lt.mpr h)))
noncomputable abbrev clN:List (List Nat):=[[110,117,109,98,101,114],[103,114,111,117,112],[102,105,114,115,116],[108,97,115,116]]
noncomputable abbrev clE:XE:=(n_ite (n_cmp2 OpC.le OpC.lt (zQ 2) (jZ Op2.add (zQ 0) (zX 1)) (zQ 3)) jV (zQ 1))
noncomputable abbrev clC (n f l:Nat):AV→AM (Option AV):=cfN n clN clE (t_tup [(zC 0 false),(zC 1 false)]) [] [(2,.int f),(3,.int l)]
theorem cl_ev {K f l j:Nat}{x:AV}{P:HP}:Ye K [some (.int j),some x,some (.int f),some (.int l)] clE P (if f≤j+1∧j+1<l then AV.none else x) P:=by
  have h:Ye K [some (.int j),some x,some (.int f),some (.int l)] (jZ Op2.add (zQ 0) (zX 1)) P (.int ((j+1:Nat):Int)) P:=zW rfl
  have h2:Ye K [some (.int j),some x,some (.int f),some (.int l)] (zQ 2) P (.int f) P:=zW rfl
  have h3:Ye K [some (.int j),some x,some (.int f),some (.int l)] (zQ 3) P (.int l) P:=zW rfl
  by_cases c1:f≤j+1
  · by_cases c2:j+1<l
    · rw[if_pos ⟨c1,c2⟩]
      exact ye_itet (ye_cmp2t h2 h (le_t c1) h3 (lt_t c2)) (zW rfl)
    · rw[if_neg fun q=>c2 q.2]
      exact ye_itef (ye_cmp2t h2 h (le_t c1) h3 (lt_f (Nat.not_lt.mp c2))) (zW rfl)
  · rw[if_neg fun q=>c1 q.1]
    exact ye_itef (ye_cmp2f h2 h (le_f (Nat.not_le.mp c1))) (zW rfl)
theorem cl_comp {n f l:Nat}{P:HP}:∀ (gs:List AV)(j:Nat),Yl (acomp (clC n f l) ((gs.zipIdx j).map fun p => .tup [.int p.2,p.1])) P (clrA f l gs j) P
  | [],_=>wQ
  | x :: r,j=>by
    refine zV (m:=clC n f l (.tup [.int j,x])) (f:=fun o=>zZ (acomp (clC n f l) ((r.zipIdx (j+1)).map fun p => .tup [.int p.2,p.1])) fun q=>zH (match o with
      | some v=>v::q
      | none=>q)) (v:=some (if f≤j+1∧j+1<l then AV.none else x))
      (zV (f:=fun F'=>zZ (ands GlT (ac n) F' []) fun b=>zZ (jW (wH b)) fun t=>if t then zZ (clE.ev GlT (ac n) F') (fun v=>zH (some v)) else zH none) (v:=[some (.int j),some x,some (.int f),some (.int l)]) (wD fun H=>rfl)
        (zV (f:=fun v=>zH (some v)) (cl_ev n (Nat.le_refl n)) wQ)) ?_
    exact zV (f:=fun q=>zH (_::q)) (cl_comp r (j+1)) wQ
noncomputable abbrev FR (T tx a g fl kv c ls ms lz t f l:AV)(on cl fd:Option AV):AF:=[some T,some tx,some a,some g,some fl,some kv,some c,some ls,some ms,some lz,some t,some f,some l,on,cl,fd]
section
variable {K kc:Nat}{P:HP}{tx fl t v w m:AV}{l:List (Nat×AV)}{a e c least first last:Nat}{most:Option Nat}{lz:Bool}{gs ys:List AV}{F':AF}
noncomputable abbrev FRz (tx fl t:AV)(kc:Nat)(l:List (Nat×AV))(a c least first last:Nat)(most:Option Nat)(lz:Bool)(gs:List AV):Option AV→Option AV→Option AV→AF:=FR (repT least most lz t first last) tx (.int a) (.lst gs) fl (.clo kc l) (.int c) (.int least) (mostA most) (.bool lz) t (.int first) (.int last)
noncomputable abbrev kO (tx fl t:AV)(kc:Nat)(l:List (Nat×AV))(a c least first last:Nat)(most:Option Nat)(lz:Bool):List (Nat×AV):=[(2,.int a),(3,.clo kc l),(4,.int c),(5,fl),(6,.int least),(7,tx),(8,repT least most lz t first last)]
theorem r_top (h:Ys K (FRz tx fl t kc l a c least first last most lz gs none none none) (f_law_again.body.drop 1) P (.ret v) F' P):Yc (K+1) (.fn 40) [repT least most lz t first last,tx,.int a,.lst gs,fl,.clo kc l,.int c] P v P :=
  ZJ (f:=f_law_again) (F:=[some (repT least most lz t first last),some tx,some (.int a),some (.lst gs),some fl,some (.clo kc l),some (.int c),none,none,none,none,none,none,none,none,none]) rfl rfl (wU 1 (by kernel_rfl) h)
noncomputable def over (most:Option Nat)(c:Nat):Bool:=@Option.rec Nat (fun q_=>Bool) false (fun m=>Nat.ble m c) most
theorem r_cond:Ye K (FRz tx fl t kc l a c least first last most lz gs none none none) (ZH [(zD OpC.isNot (zQ 8) jV),(zD OpC.ge (zQ 6) (zQ 8))]) P (.bool (over most c)) P:=by
  cases most with
  | none=>exact ye_andf (zW (by kernel_rfl))
  | some m =>
    refine JQ (zW (by kernel_rfl)) (ye_and1 (jY (x := .int c) (y := .int m) (zW rfl) (zW rfl) ?_))
    cases h:over (some m) c with
    | true=>exact ge_t (Nat.le_of_ble_eq_true h)
    | false=>exact ge_f (Nat.not_le.mp (Nat.not_le_of_not_ble_eq_true (fun q=>Bool.noConfusion (q.symm.trans h))))
theorem r_over (h:over most c=true)(r:Yc K (.clo kc l) [.int a,.lst gs] P v P):Yc (K+1) (.fn 40) [repT least most lz t first last,tx,.int a,.lst gs,fl,.clo kc l,.int c] P v P :=
  r_top (wX (h▸r_cond) (jJ (ye_callk rfl (wW rfl) r)))
noncomputable abbrev FRc (tx fl t:AV)(kc:Nat)(l:List (Nat×AV))(a c least first last:Nat)(most:Option Nat)(lz:Bool)(gs:List AV)(fd:Option AV):AF:=FRz tx fl t kc l a c least first last most lz gs (some (.clo 1 (kO tx fl t kc l a c least first last most lz))) (some (.lst (clrA first last gs 0))) fd
theorem r_in (hl:gs.length≤line)(h:over most c=false)(r:Ys K (FRc tx fl t kc l a c least first last most lz gs none) (f_law_again.body.drop 4) P (.ret v) F' P):Yc (K+1) (.fn 40) [repT least most lz t first last,tx,.int a,.lst gs,fl,.clo kc l,.int c] P v P :=
  r_top (ZV (h▸r_cond) (wU 1 (F1:=FRz tx fl t kc l a c least first last most lz gs (some (.clo 1 (kO tx fl t kc l a c least first last most lz))) none none) (by kernel_rfl)
    (zG (F1:=FRc tx fl t kc l a c least first last most lz gs none) (yx_acomp (ys:=clrA first last gs 0) (fun n hn=>y_comp (names:=clN) (src:=i_enum (zQ 3)) (caps:=[(11,2),(12,3)]) (l:=[(2,.int first),(3,.int last)]) (xs:=(gs.zipIdx 0).map fun p => .tup [.int p.2,p.1]) (wD fun H=>rfl) rfl (cl_comp gs 0) (by rw[clr_len];exact hl)) (by show 14<16;decide)) r)))
theorem r_body {f0:Option AV}(h:Yc K (.fn 43) [t,tx,.int a,.lst (clrA first last gs 0),fl,.clo 1 (kO tx fl t kc l a c least first last most lz)] P v P)(r:Ys K (FRc tx fl t kc l a c least first last most lz gs (some v)) (f_law_again.body.drop 6) P (.ret w) F' P):Ys K (FRc tx fl t kc l a c least first last most lz gs f0) (f_law_again.body.drop 5) P (.ret w) F' P :=
  zG (F1:=FRc tx fl t kc l a c least first last most lz gs (some v)) (jK (jD (f:=43) rfl (wW rfl) h) (by show 15<16;decide)) r
theorem r_ge {f0:Option AV}(h:least≤c):Ye K (FRc tx fl t kc l a c least first last most lz gs f0) (zD OpC.ge (zQ 6) (zQ 7)) P (.bool true) P:=jY (x := .int c) (y := .int least) (zW rfl) (zW rfl) (ge_t h)
theorem r_lt {f0:Option AV}(h:c<least):Ye K (FRc tx fl t kc l a c least first last most lz gs f0) (zD OpC.ge (zQ 6) (zQ 7)) P (.bool false) P:=jY (x := .int c) (y := .int least) (zW rfl) (zW rfl) (ge_f h)
theorem r_ret:Ys K (FRc tx fl t kc l a c least first last most lz gs (some v)) (f_law_again.body.drop 7) P (.ret v) (FRc tx fl t kc l a c least first last most lz gs (some v)) P:=jJ (zW rfl)
theorem r_keepT:Ys K (FRc tx fl t kc l a c least first last most lz gs (some (.tup ys))) (f_law_again.body.drop 6) P (.ret (.tup ys)) (FRc tx fl t kc l a c least first last most lz gs (some (.tup ys))) P :=
  ZV (ye_andf (zW (by kernel_rfl))) r_ret
theorem r_keepL (h:c<least):Ys K (FRc tx fl t kc l a c least first last most lz gs (some .none)) (f_law_again.body.drop 6) P (.ret .none) (FRc tx fl t kc l a c least first last most lz gs (some .none)) P :=
  ZV (JQ (zW (by kernel_rfl)) (ye_andf (r_lt h))) r_ret
theorem r_keepZ (h:least≤c):Ys K (FRc tx fl t kc l a c least first last most true gs (some .none)) (f_law_again.body.drop 6) P (.ret .none) (FRc tx fl t kc l a c least first last most true gs (some .none)) P :=
  ZV (JQ (zW (by kernel_rfl)) (JQ (r_ge h) (zW (by kernel_rfl)))) r_ret
theorem r_else (h:least≤c)(k:Yc K (.clo kc l) [.int a,.lst gs] P v P):Ys K (FRc tx fl t kc l a c least first last most false gs (some .none)) (f_law_again.body.drop 6) P (.ret v) (FRc tx fl t kc l a c least first last most false gs (some .none)) P :=
  wX (JQ (zW (by kernel_rfl)) (JQ (r_ge h) (zW (by kernel_rfl)))) (jJ (ye_callk rfl (wW rfl) k))
theorem r_few (h:c<least)(r:Ys K (FRc tx fl t kc l a c least first last most lz gs none) (f_law_again.body.drop 5) P (.ret v) F' P):Ys K (FRc tx fl t kc l a c least first last most lz gs none) (f_law_again.body.drop 4) P (.ret v) F' P :=
  ZV (ye_andf (r_lt h)) r
theorem r_greedy (h:least≤c)(r:Ys K (FRc tx fl t kc l a c least first last most false gs none) (f_law_again.body.drop 5) P (.ret v) F' P):Ys K (FRc tx fl t kc l a c least first last most false gs none) (f_law_again.body.drop 4) P (.ret v) F' P :=
  ZV (JQ (r_ge h) (zW (by kernel_rfl))) r
theorem r_lazyS (h:least≤c)(k:Yc K (.clo kc l) [.int a,.lst gs] P (.tup ys) P):Ys K (FRc tx fl t kc l a c least first last most true gs none) (f_law_again.body.drop 4) P (.ret (.tup ys)) (FRc tx fl t kc l a c least first last most true gs (some (.tup ys))) P :=
  wX (JQ (r_ge h) (zW (by kernel_rfl))) (zG (F1:=FRc tx fl t kc l a c least first last most true gs (some (.tup ys))) (jK (ye_callk rfl (wW rfl) k) (by show 15<16;decide)) (wX (zW (by kernel_rfl)) (jJ (zW rfl))))
theorem r_lazyN (h:least≤c)(k:Yc K (.clo kc l) [.int a,.lst gs] P .none P)(r:Ys K (FRc tx fl t kc l a c least first last most true gs (some .none)) (f_law_again.body.drop 5) P (.ret v) F' P):Ys K (FRc tx fl t kc l a c least first last most true gs none) (f_law_again.body.drop 4) P (.ret v) F' P :=
  ys_ifn (JQ (r_ge h) (zW (by kernel_rfl))) (zG (F1:=FRc tx fl t kc l a c least first last most true gs (some .none)) (jK (ye_callk rfl (wW rfl) k) (by show 15<16;decide)) (ZV (zW (by kernel_rfl)) ZY)) r
noncomputable abbrev FO (tx fl t m:AV)(kc:Nat)(l:List (Nat×AV))(a e c least first last:Nat)(most:Option Nat)(lz:Bool):AF:=[some (.int e),some m,some (.int a),some (.clo kc l),some (.int c),some fl,some (.int least),some tx,some (repT least most lz t first last)]
theorem o_no (h:least≤c):Yc 1 (.clo 1 (kO tx fl t kc l a c least first last most lz)) [.int a,m] P .none P :=
  yc_clos (f:=c_1) (F:=FO tx fl t m kc l a a c least first last most lz) rfl rfl rfl (wX (JQ (jY (x := .int c) (y := .int least) (zW rfl) (zW rfl) (ge_t h)) (ye_and1 (jY (x := .int a) (y := .int a) (zW rfl) (zW rfl) (eq_t rfl)))) (jJ (zW rfl)))
theorem o_go (h:c<least∨e≠a)(r:Yc K (.fn 40) [repT least most lz t first last,tx,.int e,m,fl,.clo kc l,.int ((c+1:Nat):Int)] P v P):Yc (K+1) (.clo 1 (kO tx fl t kc l a c least first last most lz)) [.int e,m] P v P:=by
  refine yc_clos (f:=c_1) (F:=FO tx fl t m kc l a e c least first last most lz) rfl rfl rfl (ZV ?_ (jJ (jD (f:=40) rfl (wW rfl) r)))
  by_cases hc:c<least
  · exact ye_andf (jY (x := .int c) (y := .int least) (zW rfl) (zW rfl) (ge_f hc))
  · exact JQ (jY (x := .int c) (y := .int least) (zW rfl) (zW rfl) (ge_t (Nat.not_lt.mp hc))) (ye_and1 (jY (x := .int e) (y := .int a) (zW rfl) (zW rfl) (eq_f (h.resolve_left hc))))
end
end
section
set_option backward.match.sparseCases false
open PySem
theorem zinst {H:AH}{p:Nat}{c:Cls}{fs:Fld→Option AV}(h:H[p]? = some (.inst c fs))(hc:c ≠ .fail):ainst (.obj p) H=some ((p,c,fs),H):=by
  show(instAt H p).map _=_
  unfold instAt
  rw[h]
  show(if c = .fail then none else some (c,fs)).map _=_
  rw[if_neg hc];rfl
theorem zlist {H:AH}{n:Nat}{xs:List AV}(h:H[n]? = some (.list xs)):listAt H n=some xs:=by
  unfold listAt
  rw[h]
theorem zalist {H:AH}{n:Nat}{xs:List AV}(h:H[n]? = some (.list xs)):alist (.obj n) H=some ((n,xs),H):=by
  show(listAt H n).map _=_
  rw[zlist h];rfl
section
variable {K:Nat}{F:AF}{P Q R S:HP}{a e o:XE}{es:List XE}{v x:AV}{f:Fld}{p n:Nat}{c:Cls}{xs:List AV}
theorem y_get (h:∀ H,P H→∃ c fs,H[p]? = some (.inst c fs)∧c ≠ .fail∧fs f=some v):Yl (agetA (.obj p) f) P v P:=fun H q=>by
  refine via fun R_ k_=>?_
  obtain⟨c,fs,h1,h2,h3⟩:=h H q
  refine k_ ?_
  refine⟨H,?_,q⟩
  show zZ (ainst (.obj p)) (fun p=>jW (p.2.2 f)) H=_
  rw[wV (zinst h1 h2)]
  show jW (fs f) H=_
  rw[h3];rfl
theorem ye_attr (h:Ye K F a P (.obj p) Q)(k:∀ H,Q H→∃ c fs,H[p]? = some (.inst c fs)∧c ≠ .fail∧fs f=some v):Ye K F (jU a f) P v Q:=fun n hn =>
  zV (f:=fun x=>agetA x f) (h n hn) (y_get k)
theorem ye_own {k j:Nat}(h:Ye K F o P (.obj p) P)(hp:∀ H,P H→∃ fs,H[p]? = some (.inst c fs))(hc:c ≠ .fail)(hj:GlT.mth c k=some j)(h3:Yv K F es P xs Q)(h4:Yc K (.fn j) (.obj p::xs) Q v R):Ye K F (ZK o k es) P v R:=fun n hn =>
  zV (f:=fun x=>zZ (aclsOf x) fun c=>zZ (jW (GlT.mth c k)) fun j=>zZ (evs GlT (ac n) F es) fun xs=>ac n (.fn j) (x::xs)) (h n hn)
    (zV (f:=fun c=>zZ (jW (GlT.mth c k)) fun j=>zZ (evs GlT (ac n) F es) fun xs=>ac n (.fn j) (.obj p::xs)) (v:=c) (Q:=P) (fun H q=>by
      obtain⟨fs,e⟩:=hp H q
      refine⟨H,?_,q⟩
      show zZ (ainst (.obj p)) (fun p=>zH p.2.1) H=_
      rw[wV (zinst e hc)];rfl)
    (zV (f:=fun j=>zZ (evs GlT (ac n) F es) fun xs=>ac n (.fn j) (.obj p::xs)) (y_opt hj) (zV (f:=fun xs=>ac n (.fn j) (.obj p::xs)) (h3 n hn) (h4 n hn))))
theorem y_app (h:∀ H,P H→∃ xs,H[n]? = some (.list xs)∧xs.length<line∧Q (H.set n (.list (xs++[v])))):Yl (ame .append (.obj n) [v]) P .none Q:=fun H p=>by
  obtain⟨xs,h1,h2,h3⟩:=h H p
  refine⟨_,?_,h3⟩
  show zZ (jW (one [v])) (fun v=>zZ (alist (.obj n)) fun p=>zZ (jW (aif (p.2.length<line) ())) fun q_=>zZ (aputL p.1 (p.2++[v])) fun q_=>zH AV.none) H=_
  rw[opt_eq (o:=one [v]) (x:=v) rfl,wV (zalist h1),opt_eq (ZG h2)];rfl
theorem y_amty {m:Me}(hm:ofStr m=false∧ofList m=true)(h:∀ H,P H→∃ xs,H[n]? = some (.list xs)):Yl (amty m (.obj n)) P () P:=fun H p=>by
  obtain⟨xs,h1⟩:=h H p
  refine⟨H,?_,p⟩
  unfold amty
  rw[hm.1,hm.2]
  show zZ (alist (.obj n)) (fun q_=>zH ()) H=_
  rw[wV (zalist h1)];rfl
theorem ye_meth {m:Me}(hm:ofStr m=false∧ofList m=true)(h:Ye K F o P (.obj n) Q)(h1:∀ H,Q H→∃ xs,H[n]? = some (.list xs))(h2:Yv K F es Q xs R)(h3:Yl (ame m (.obj n) xs) R v S):Ye K F (n_meth o m es) P v S:=fun n' hn =>
  zV (f:=fun x=>zZ (amty m x) fun q_=>zZ (evs GlT (ac n') F es) fun xs=>ame m x xs) (h n' hn) (zV (f:=fun q_=>zZ (evs GlT (ac n') F es) fun xs=>ame m (.obj n) xs) (y_amty hm h1) (zV (f:=fun xs=>ame m (.obj n) xs) (h2 n' hn) h3))
theorem ye_lenL (h:Ye K F e P (.obj n) Q)(hs:∀ H,Q H→H[n]? = some (.list xs))(hl:xs.length≤line):Ye K F (zK (zB 39) [e]) P (.int xs.length) Q :=
  ye_bi (f := .len) rfl (zY h jF) fun H q=>by
    show(lenA H (.obj n)).bind (fun n=>aif (n≤line) (AV.int n))=_
    have:lenA H (.obj n)=some xs.length:=by
      show(listAt H n).map List.length=_
      rw[zlist (hs H q)];rfl
    rw[this]
    exact ZG hl
theorem ye_subL {i:Nat}(h:Ye K F a P (.obj n) Q)(k:Ye K F e Q (.int (i:Nat)) R)(hs:∀ H,R H→H[n]? = some (.list xs))(hi:i≤line)(hx:xs[i]? = some v):Ye K F (zA a e) P v R :=
  ye_sub h k fun H q=>by
    unfold asub
    refine(Option.bind_some ..).trans ?_
    dsimp only
    rw[zlist (hs H q)]
    refine(Option.bind_some ..).trans ?_
    rw[at_nat hi];exact hx
theorem yx_seti {i:Nat}(h:Ye K F e P v Q)(h1:Ye K F o Q (.obj n) Q)(h2:Ye K F a Q (.int (i:Nat)) Q)(h3:∀ H,Q H→∃ xs,H[n]? = some (.list xs)∧i<xs.length∧xs.length≤line∧R (H.set n (.list (xs.set i v)))):Yx K F (zU (t_sub o a) e) P F R:=fun n' hn =>
  zV (f:=fun v=>zZ ((t_sub o a).st GlT (ac n') v F) fun F'=>zH (Flo.next,F')) (h n' hn)
    (zV (f:=fun F'=>zH (Flo.next,F')) (zV (f:=fun x=>zZ (a.ev GlT (ac n') F) fun k=>zZ (asetI x k v) fun q_=>zH F) (h1 n' hn) (zV (f:=fun k=>zZ (asetI (.obj n) k v) fun q_=>zH F) (h2 n' hn) (zV (f:=fun q_=>zH F) (v:=()) (Q:=R) (fun H q=>by
      refine via fun R_ k_=>?_
      obtain⟨xs,g1,g2,g3,g4⟩:=h3 H q
      refine k_ ?_
      refine⟨_,?_,g4⟩
      show zZ (jW (wY (.int (i:Nat)))) (fun i=>zZ (alist (.obj n)) fun p=>zZ (jW (aif (0≤i∧i<(p.2.length:Int)∧i<2 ^ 62) ())) fun q_=>aputL p.1 (p.2.set i.toNat v)) H=_
      rw[opt_eq (o:=wY (.int (i:Nat))) (x:=(i:Int)) rfl,wV (zalist g1),opt_eq (ZG ⟨Int.natCast_nonneg i,Int.ofNat_lt.mpr g2,lt62 (Nat.le_trans (Nat.le_of_lt g2) g3)⟩)];rfl) wQ))) wQ)
theorem y_seta {fs:Fld→Option AV}(h:∀ H,P H→∃ c fs,H[p]? = some (.inst c fs)∧c ≠ .fail∧Q (H.set p (.inst c fun g=>if g=f then some v else fs g))):Yl (asetA (.obj p) f v) P () Q:=fun H q=>by
  refine via fun R_ k_=>?_
  obtain⟨c,fs,h1,h2,h3⟩:=h H q
  refine k_ ?_
  refine⟨_,?_,h3⟩
  show zZ (ainst (.obj p)) (fun p=>aputI p.1 p.2.1 fun g=>if g=f then some v else p.2.2 g) H=_
  rw[wV (zinst h1 h2)];rfl
theorem yx_seta (h:Ye K F e P v Q)(h1:Ye K F o Q (.obj p) Q)(h2:∀ H,Q H→∃ c fs,H[p]? = some (.inst c fs)∧c ≠ .fail∧R (H.set p (.inst c fun g=>if g=f then some v else fs g))):Yx K F (zU (t_attr o f) e) P F R:=fun n' hn =>
  zV (f:=fun v=>zZ ((t_attr o f).st GlT (ac n') v F) fun F'=>zH (Flo.next,F')) (h n' hn)
    (zV (f:=fun F'=>zH (Flo.next,F')) (zV (f:=fun x=>zZ (asetA x f v) fun q_=>zH F) (h1 n' hn) (zV (f:=fun q_=>zH F) (y_seta (fs:=fun q_=>none) h2) wQ)) wQ)
end
structure Cx where
  cs:List Nat
  fl:List Nat
  cnt:Nat
  nL:Nat
  SL:List AV
structure TxOk (cs fl:List Nat):Prop where
  tx:∀ c∈cs,c∈LT
  flg:fl∈FLs
  len:cs.length≤4
noncomputable def sF (X:Cx)(sl wl L:Nat)(f:Fld):Option AV:=@Fld.rec (fun q_=>Option AV) none (some (.str X.cs)) none none (some (.obj sl)) none (some (.bool (icOf X.fl))) (some (.bool (mlOf X.fl))) (some (.int L)) (some (.obj wl)) f
structure SIw (X:Cx)(s sl L:Nat)(W:List AV)(H:AH)(wl:Nat):Prop where
  inst:H[s]? = some (.inst .search (sF X sl wl L))
  list:H[wl]? = some (.list W)
  steps:H[sl]? = some (.list X.SL)
  ne:wl≠sl
noncomputable def SI (X:Cx)(s sl L:Nat)(W:List AV):HP:=fun H=>∃ wl,SIw X s sl L W H wl
theorem sF_left {X:Cx}{sl wl L M:Nat}:(fun g=>if g=Fld.left then some (AV.int M) else sF X sl wl L g)=sF X sl wl M:=funext fun g=>by cases g <;> rfl
theorem sF_wait {X:Cx}{sl wl wm L:Nat}:(fun g=>if g=Fld.waiting then some (AV.obj wm) else sF X sl wl L g)=sF X sl wm L:=funext fun g=>by cases g <;> rfl
section
variable {X:Cx}{s sl L K:Nat}{W B:List AV}{F:AF}{H:AH}{wl:Nat}{v w:AV}{e:XE}
theorem SIw.ne1 (h:SIw X s sl L W H wl):s≠wl:=fun e=>by cases (e▸h.inst).symm.trans h.list
theorem SIw.ne2 (h:SIw X s sl L W H wl):s≠sl:=fun e=>by cases (e▸h.inst).symm.trans h.steps
theorem SIw.put (h:SIw X s sl L W H wl)(V:List AV):SI X s sl L V (H.set wl (.list V)) :=
  ⟨wl,by rw[List.getElem?_set_ne h.ne1.symm];exact h.inst,List.getElem?_set_self (List.getElem?_eq_some_iff.mp h.list).1,by rw[List.getElem?_set_ne h.ne];exact h.steps,h.ne⟩
theorem s_inst (h:SI X s sl L W H):∃ fs,H[s]? = some (.inst .search fs):=by
  obtain⟨wl,h⟩:=h
  exact⟨_,h.inst⟩
theorem s_get {f:Fld}(hf:∀ wl,sF X sl wl L f=some v):Ye K (some (.obj s)::F) (jU (zQ 0) f) (SI X s sl L W) v (SI X s sl L W) :=
  ye_attr (zW rfl) fun H h=>by
    obtain⟨wl,h⟩:=h
    exact⟨_,_,h.inst,(fun q=>nomatch q),hf wl⟩
theorem s_text:Ye K (some (.obj s)::F) (jU (zQ 0) .text) (SI X s sl L W) (.str X.cs) (SI X s sl L W):=s_get fun q_=>rfl
theorem s_ic:Ye K (some (.obj s)::F) (jU (zQ 0) .ic) (SI X s sl L W) (.bool (icOf X.fl)) (SI X s sl L W):=s_get fun q_=>rfl
theorem s_ml:Ye K (some (.obj s)::F) (jU (zQ 0) .ml) (SI X s sl L W) (.bool (mlOf X.fl)) (SI X s sl L W):=s_get fun q_=>rfl
theorem s_left:Ye K (some (.obj s)::F) (jU (zQ 0) .left) (SI X s sl L W) (.int L) (SI X s sl L W):=s_get fun q_=>rfl
theorem s_steps:Ye K (some (.obj s)::F) (jU (zQ 0) .steps) (SI X s sl L W) (.obj sl) (SI X s sl L W):=s_get fun q_=>rfl
theorem y_ex {α β:Type}{m:AM α}{P:β→HP}{v:α}{Q:HP}(h:∀ b,Yl m (P b) v Q):Yl m (fun H=>∃ b,P b H) v Q:=fun H q=>by
  obtain⟨b,q⟩:=q
  exact h b H q
theorem s_w (wl:Nat):Ye K (some (.obj s)::F) (jU (zQ 0) .waiting) (fun H=>SIw X s sl L W H wl) (.obj wl) (fun H=>SIw X s sl L W H wl) :=
  ye_attr (zW rfl) fun H h=>⟨_,_,h.inst,(fun q=>nomatch q),rfl⟩
theorem s_len (hl:W.length≤line):Ye K (some (.obj s)::F) (zK (zB 39) [(jU (zQ 0) .waiting)]) (SI X s sl L W) (.int W.length) (SI X s sl L W):=fun n hn=>y_ex fun wl H q=>by
  obtain⟨H',e,q⟩:=ye_lenL (s_w wl) (fun H q=>q.list) hl n hn H q
  exact⟨H',e,wl,q⟩
theorem s_push (hl:W.length<line)(he:∀ wl,Ye K (some (.obj s)::F) e (fun H=>SIw X s sl L W H wl) v (fun H=>SIw X s sl L W H wl)):Yx K (some (.obj s)::F) (ZX (n_meth (jU (zQ 0) .waiting) Me.append [e])) (SI X s sl L W) (some (.obj s)::F) (SI X s sl L (W++[v])):=fun n hn=>y_ex fun wl =>
  yx_expr (v := .none) (ye_meth ⟨rfl,rfl⟩ (s_w wl) (fun H q=>⟨_,q.list⟩) (zY (he wl) jF) (y_app fun H q=>⟨W,q.list,hl,q.put _⟩)) rfl n hn
theorem y_pop {n:Nat}{P Q:HP}(h:∀ H,P H→∃ xs,H[n]? = some (.list (xs++[v]))∧xs.length<line∧Q (H.set n (.list xs))):Yl (ame .pop (.obj n) []) P v Q:=fun H p=>by
  obtain⟨xs,h1,h2,h3⟩:=h H p
  refine⟨_,?_,h3⟩
  show zZ (jW (aif (([]:List AV)=[]) ())) (fun q_=>zZ (alist (.obj n)) fun p=>zZ (jW p.2.getLast?) fun v=>zZ (jW (aif (p.2.length≤line) ())) fun q_=>zZ (aputL p.1 p.2.dropLast) fun q_=>zH v) H=_
  rw[opt_eq (ZG (x:=()) rfl),wV (zalist h1),opt_eq (o:=(xs++[v]).getLast?) (x:=v) List.getLast?_concat,opt_eq (ZG (x:=()) (by rw[List.length_append];exact h2)),List.dropLast_concat];rfl
theorem s_pop (hl:W.length<line):Ye K (some (.obj s)::F) (n_meth (jU (zQ 0) .waiting) Me.pop []) (SI X s sl L (W++[v])) v (SI X s sl L W):=fun n hn=>y_ex fun wl =>
  ye_meth ⟨rfl,rfl⟩ (s_w wl) (fun H q=>⟨_,q.list⟩) jF (y_pop fun H q=>⟨W,q.list,hl,q.put _⟩) n hn
theorem s_step {i:Nat}{a:XE}(hX:X.SL.length≤line)(hi:X.SL[i]? = some v)(ha:Ye K (some (.obj s)::F) a (SI X s sl L W) (.int (i:Nat)) (SI X s sl L W)):Ye K (some (.obj s)::F) (zA (jU (zQ 0) .steps) a) (SI X s sl L W) v (SI X s sl L W) :=
  ye_subL s_steps ha (fun H q=>by obtain⟨wl,q⟩:=q;exact q.steps) (Nat.le_trans (Nat.le_of_lt (List.getElem?_eq_some_iff.mp hi).1) hX) hi
theorem s_dec:Yx K (some (.obj s)::F) (s_augA (zQ 0) .left Op2.sub (zX 1)) (SI X s sl (L+1) W) (some (.obj s)::F) (SI X s sl L W):=fun n hn H q=>by
  obtain⟨wl,q⟩:=q
  refine⟨H.set s (.inst .search (sF X sl wl L)),?_,wl,?_,?_,?_,q.ne⟩
  · show zZ (agetA (.obj s) .left) (fun v=>zZ (zH (AV.int 1)) fun y=>zZ (jW (abin .sub v y)) fun z=>zZ (jW (wY z)) fun k=>zZ (asetA (.obj s) .left (.int k)) fun q_=>zH (Flo.next,some (AV.obj s)::F)) H=_
    obtain⟨H1,e1,rfl⟩:=y_get (f:=Fld.left) (v := .int ((L+1:Nat):Int)) (P:=fun H'=>H'=H) (fun H' e=>⟨.search,sF X sl wl (L+1),e.symm▸q.inst,(fun q=>nomatch q),rfl⟩) H rfl
    rw[wV e1]
    show zZ (jW (wY (.int (((L+1:Nat):Int)-1)))) (fun k=>zZ (asetA (.obj s) .left (.int k)) fun q_=>zH (Flo.next,some (AV.obj s)::F)) H1=_
    rw[sub1,opt_eq (o:=wY (.int (L:Int))) (x:=(L:Int)) rfl]
    show zZ (zZ (ainst (.obj s)) fun p=>aputI p.1 p.2.1 fun g=>if g = .left then some (.int (L:Int)) else p.2.2 g) (fun q_=>zH (Flo.next,some (AV.obj s)::F)) H1=_
    rw[wV (m:=zZ (ainst (.obj s)) _) (x:=()) (H1:=H1.set s (.inst .search (sF X sl wl L)))]
    · rfl
    · rw[wV (zinst q.inst (fun q=>nomatch q))]
      show some ((),H1.set s (.inst .search fun g=>if g=Fld.left then some (AV.int L) else sF X sl wl (L+1) g))=_
      rw[sF_left]
  · exact List.getElem?_set_self (List.getElem?_eq_some_iff.mp q.inst).1
  · rw[List.getElem?_set_ne q.ne1];exact q.list
  · rw[List.getElem?_set_ne q.ne2];exact q.steps
theorem s_cut {b:XE}(hl:(B++W).length≤line)(hb:E0 b (some (.obj s)::F)=V0 (.int B.length)):Yx K (some (.obj s)::F) (zU (t_attr (zQ 0) .waiting) (n_slm (jU (zQ 0) .waiting) none (some b))) (SI X s sl L (B++W)) (some (.obj s)::F) (SI X s sl L B):=fun n hn=>y_ex fun wl=>by
  have e:Ye K (some (.obj s)::F) (n_slc (jU (zQ 0) .waiting) none (some b)) (fun H=>SIw X s sl L (B++W) H wl) (.lst B) (fun H=>SIw X s sl L (B++W) H wl) :=
    ye_slt (s_w wl) (zW hb) fun H q=>by
      show(part .none).bind (fun l=>(part (.int (B.length:Nat))).bind fun h=>(listAt H wl).bind fun xs=>aif (xs.length≤line) (AV.lst (cut xs l h)))=_
      rw[part_nat (Nat.le_trans (by rw[List.length_append];exact Nat.le_add_right _ _) hl),zlist q.list]
      show aif ((B++W).length≤line) (AV.lst (cut (B++W) none (some (B.length:Int))))=_
      rw[ZG hl,cut_to,List.take_left]
  intro H q
  obtain⟨H',e1,q1⟩:=e n hn H q
  refine⟨(H'++[AObj.list B]).set s (.inst .search (sF X sl H'.length L)),?_,H'.length,?_,?_,?_,?_⟩
  · have e2:(n_slm (jU (zQ 0) .waiting) none (some b)).ev GlT (ac n) (some (.obj s)::F) H=some (.obj H'.length,H'++[AObj.list B]):=by
      refine via fun R_ k_=>?_
      obtain⟨x,H1,g1,g2⟩:=zJ (show zZ ((jU (zQ 0) .waiting).ev GlT (ac n) (some (.obj s)::F)) (fun x=>zZ (evp GlT (ac n) (some (.obj s)::F) none) fun l=>zZ (evp GlT (ac n) (some (.obj s)::F) (some b)) fun h=>aread fun H=>aslc H x l h) H=_ from e1)
      obtain⟨y,H2,g3,g4⟩:=zJ g2
      obtain⟨z,H3,g5,g6⟩:=zJ g4
      refine k_ ?_
      show zZ ((jU (zQ 0) .waiting).ev GlT (ac n) (some (.obj s)::F)) (fun x=>zZ (evp GlT (ac n) (some (.obj s)::F) none) fun l=>zZ (evp GlT (ac n) (some (.obj s)::F) (some b)) fun h=>zZ (aread fun H=>aslc H x l h) fun v=>zZ (jW (toLst v)) fun xs=>anewL xs) H=_
      rw[wV g1,wV g3,wV g5,wV g6];rfl
    show zZ ((n_slm (jU (zQ 0) .waiting) none (some b)).ev GlT (ac n) (some (.obj s)::F)) (fun v=>zZ (zZ (asetA (.obj s) .waiting v) fun q_=>zH (some (AV.obj s)::F)) fun F'=>zH (Flo.next,F')) H=_
    rw[wV e2]
    have g:(H'++[AObj.list B])[s]? = some (.inst .search (sF X sl wl L)):=by
      rw[List.getElem?_append_left (List.getElem?_eq_some_iff.mp q1.inst).1];exact q1.inst
    show zZ (zZ (zZ (ainst (.obj s)) fun p=>aputI p.1 p.2.1 fun g=>if g = .waiting then some (.obj H'.length) else p.2.2 g) fun q_=>zH (some (AV.obj s)::F)) (fun F'=>zH (Flo.next,F')) _=_
    rw[wV (m:=zZ (zZ (ainst (.obj s)) _) _) (x:=some (AV.obj s)::F) (H1:=(H'++[AObj.list B]).set s (.inst .search (sF X sl H'.length L)))]
    · rfl
    · rw [wV (m:=zZ (ainst (.obj s)) _) (x:=()) (H1:=(H'++[AObj.list B]).set s (.inst .search (sF X sl H'.length L)))]
      · rfl
      · rw[wV (zinst g (fun q=>nomatch q))]
        show some ((),(H'++[AObj.list B]).set s (.inst .search fun g=>if g=Fld.waiting then some (AV.obj H'.length) else sF X sl wl L g))=_
        rw[sF_wait]
  · rw[List.getElem?_set_self]
    rw[List.length_append];exact Nat.lt_succ_of_lt (List.getElem?_eq_some_iff.mp q1.inst).1
  · rw[List.getElem?_set_ne (Nat.ne_of_lt (List.getElem?_eq_some_iff.mp q1.inst).1),List.getElem?_append_right (Nat.le_refl _),Nat.sub_self];rfl
  · rw[List.getElem?_set_ne q1.ne2,List.getElem?_append_left (List.getElem?_eq_some_iff.mp q1.steps).1];exact q1.steps
  · exact fun e=>Nat.lt_irrefl _ (e▸(List.getElem?_eq_some_iff.mp q1.steps).1)
end
end
section
set_option backward.match.sparseCases false
open PySem
theorem wC {n k:Nat}(h:k+1≤n):∃ m,k≤m∧n=m+1:=⟨n-1,Nat.le_sub_one_of_lt h,(Nat.succ_pred_eq_of_pos (Nat.lt_of_lt_of_le (Nat.succ_pos k) h)).symm⟩
theorem le_tab (n:Nat)(H:AH):(LT.map fun c=>ac (n+1) (.fn 0) [.int (c:Nat)] H)=mp (fun c=>some (.bool (Nat.beq c 10),H)) LT:=by kernel_rfl
theorem wd_tab (n:Nat)(H:AH):(LT.map fun c=>ac (n+2) (.fn 4) [.int (c:Nat)] H)=mp (fun c=>some (.bool (alnum c),H)) LT:=by kernel_rfl
theorem cn_tab (n:Nat)(H:AH):(LT.map fun c=>ac (n+2) (.fn 5) [.int (c:Nat)] H)=mp (fun c=>some (.int (upperOf c:Nat),H)) LT:=by kernel_rfl
noncomputable abbrev rgA:AV := .tup [.tup [.int 97,.int 97],.tup [.int 99,.int 99]]
noncomputable def inC (ic:Bool)(c:Nat):Bool:=eqc ic c 97||eqc ic c 99
theorem hs_tab (n:Nat)(H:AH):(LT.map fun c=>ac (n+1) (.fn 3) [rgA,.int (c:Nat)] H)=mp (fun c=>some (.bool (inC false c),H)) LT:=by kernel_rfl
theorem hf_tab (n:Nat)(H:AH):(LT.map fun c=>ac (n+3) (.fn 6) [rgA,.int (c:Nat)] H)=mp (fun c=>some (.bool (inC true c),H)) LT:=by kernel_rfl
section
variable {c:Nat}{P:HP}(hc:c∈LT)
include hc
theorem c_le:Yc 1 (.fn 0) [.int (c:Nat)] P (.bool (Nat.beq c 10)) P:=fun n hn=>by
  obtain⟨m,_,rfl⟩:=wC hn
  exact wD fun H=>at_map (le_tab m H) hc
theorem c_wd:Yc 2 (.fn 4) [.int (c:Nat)] P (.bool (alnum c)) P:=fun n hn=>by
  obtain⟨m,h,rfl⟩:=wC hn
  obtain⟨m,_,rfl⟩:=wC h
  exact wD fun H=>at_map (wd_tab m H) hc
theorem c_cn:Yc 2 (.fn 5) [.int (c:Nat)] P (.int (upperOf c:Nat)) P:=fun n hn=>by
  obtain⟨m,h,rfl⟩:=wC hn
  obtain⟨m,_,rfl⟩:=wC h
  exact wD fun H=>at_map (cn_tab m H) hc
theorem c_hs:Yc 1 (.fn 3) [rgA,.int (c:Nat)] P (.bool (inC false c)) P:=fun n hn=>by
  obtain⟨m,_,rfl⟩:=wC hn
  exact wD fun H=>at_map (hs_tab m H) hc
theorem c_hf:Yc 3 (.fn 6) [rgA,.int (c:Nat)] P (.bool (inC true c)) P:=fun n hn=>by
  obtain⟨m1,h1,rfl⟩:=wC hn
  obtain⟨m2,h2,rfl⟩:=wC h1
  obtain⟨m,_,rfl⟩:=wC h2
  exact wD fun H=>at_map (hf_tab m H) hc
end
theorem beq_comm (a b:Nat):Nat.beq a b=Nat.beq b a:=by rw[Bool.eq_iff_iff,Nat.beq_eq,Nat.beq_eq];exact eq_comm
noncomputable abbrev kChr:AV := .str [99,104,97,114]
noncomputable abbrev kAny:AV := .str [97,110,121]
noncomputable abbrev kCls:AV := .str [99,108,97,115,115]
noncomputable abbrev Tk:Type:=Bool→Nat→Bool
noncomputable abbrev tChr (x:Nat):Tk:=fun ic c=>eqc ic c x
noncomputable abbrev tAny:Tk:=fun q_ c => !Nat.beq c 10
noncomputable abbrev tCls (o:Bool):Tk:=fun ic c=>bne (inC ic c) o
noncomputable abbrev vChr (x:Nat):AV := .tup [kChr,.int x]
noncomputable abbrev vCls (o:Bool):AV := .tup [kCls,rgA,.bool o]
noncomputable abbrev SgL:List (AV×Tk):=[(vChr 97,tChr 97),(vChr 98,tChr 98),(vChr 65,tChr 65),(.tup [kAny],tAny),(vCls false,tCls false),(vCls true,tCls true)]
theorem tk_tab (n:Nat)(H:AH):(SgL.map fun p=>LT.map fun c=>FLs.map fun fl=>ac (n+2) (.fn 38) [p.1,.str [c],.str fl] H)=mp (fun p=>mp (fun c=>mp (fun fl=>some (.bool (p.2 (icOf fl) c),H)) FLs) LT) SgL:=by kernel_rfl
theorem c_takes {p:AV×Tk}{c:Nat}{fl:List Nat}{P:HP}(hp:p∈SgL)(hc:c∈LT)(hf:fl∈FLs):Yc 2 (.fn 38) [p.1,.str [c],.str fl] P (.bool (p.2 (icOf fl) c)) P:=fun n hn=>by
  obtain⟨m,h,rfl⟩:=wC hn
  obtain⟨m,_,rfl⟩:=wC h
  exact wD fun H=>at_map (at_map (at_map (tk_tab m H) hp) hc) hf
section
variable {X:Cx}{s sl L:Nat}{W:List AV}{c x:Nat}{o:Bool}
noncomputable abbrev FT3 (s:Nat)(i v:AV)(k:Option AV):AF:=[some (.obj s),some i,some v,k]
theorem v_any (hc:c∈LT):Yc 2 (.fn 21) [.obj s,.tup [.int 1],.int (c:Nat)] (SI X s sl L W) (.bool (tAny (icOf X.fl) c)) (SI X s sl L W) :=
  ZJ (f:=f_Search_takes) (F:=FT3 s (.tup [.int 1]) (.int c) none) rfl rfl (wX (zW (by kernel_rfl)) (jJ (ye_not (jD (f:=0) rfl (wW rfl) (c_le hc)))))
theorem eqc_val {ic:Bool}{P:HP}{F:AF}{e1 e2:XE}{Q:HP}(h:Ye 2 F e1 P (.bool (Nat.beq x c)) P)(h2:Ye 2 F e2 P (.bool (ic&&Nat.beq (upperOf x) (upperOf c))) P):Ye 2 F (n_or [e1,e2]) P (.bool (eqc ic c x)) P:=by
  have e:eqc ic c x=(Nat.beq x c||(ic&&Nat.beq (upperOf x) (upperOf c))):=by
    unfold eqc
    rw[beq_comm c x,beq_comm (upperOf c) (upperOf x)]
  rw[e]
  cases hb:Nat.beq x c with
  | true=>rw[hb] at h;exact ye_ort h
  | false=>rw[hb] at h;exact ye_orf h (ye_or1 h2)
theorem beq_cmp (a b:Nat):JW .eq (.int (a:Nat)) (.int (b:Nat))=some (Nat.beq a b):=by
  cases h:Nat.beq a b with
  | true=>exact eq_t (Nat.eq_of_beq_eq_true h)
  | false=>exact eq_f (Nat.ne_of_beq_eq_false h)
theorem ye_and2 {K:Nat}{F:AF}{P:HP}{e1 e2:XE}{a b:Bool}(h:Ye K F e1 P (.bool a) P)(h2:Ye K F e2 P (.bool b) P):Ye K F (ZH [e1,e2]) P (.bool (a&&b)) P:=by
  cases a with
  | true=>exact JQ h (ye_and1 h2)
  | false=>exact ye_andf h
theorem v_chr (hx:x∈LT)(hc:c∈LT):Yc 3 (.fn 21) [.obj s,.tup [.int 0,.int x],.int (c:Nat)] (SI X s sl L W) (.bool (tChr x (icOf X.fl) c)) (SI X s sl L W) :=
  ZJ (f:=f_Search_takes) (F:=FT3 s (.tup [.int 0,.int x]) (.int c) none) rfl rfl (wU 1 (F1:=FT3 s (.tup [.int 0,.int x]) (.int c) none) (by kernel_rfl) (wX (zW (by kernel_rfl)) (jJ (eqc_val (ic:=icOf X.fl) (Q:=SI X s sl L W) (jY (x := .int x) (y := .int c) (zW (by kernel_rfl)) (zW rfl) (beq_cmp x c))
    (ye_and2 s_ic (jY (x := .int (upperOf x)) (y := .int (upperOf c)) (jD (f:=5) rfl (wW (vs:=[.int x]) (by kernel_rfl)) (c_cn hx)) (jD (f:=5) rfl (wW rfl) (c_cn hc)) (beq_cmp _ _)))))))
theorem v_cls (hc:c∈LT):Yc 4 (.fn 21) [.obj s,.tup [.int 2,rgA,.bool o],.int (c:Nat)] (SI X s sl L W) (.bool (tCls o (icOf X.fl) c)) (SI X s sl L W):=by
  refine ZJ (f:=f_Search_takes) (F:=FT3 s (.tup [.int 2,rgA,.bool o]) (.int c) none) rfl rfl (wU 2 (F1:=FT3 s (.tup [.int 2,rgA,.bool o]) (.int c) none) (by kernel_rfl) (zG (F1:=FT3 s (.tup [.int 2,rgA,.bool o]) (.int c) (some (.bool (inC (icOf X.fl) c)))) (jK ?_ (by show 3<4;decide)) (jJ (jY (x := .bool (inC (icOf X.fl) c)) (y := .bool o) (zW rfl) (zW (by kernel_rfl)) ?_))))
  · have g:Ye 3 (FT3 s (.tup [.int 2,rgA,.bool o]) (.int c) none) (jU (zQ 0) .ic) (SI X s sl L W) (.bool (icOf X.fl)) (SI X s sl L W):=s_ic
    cases h:icOf X.fl with
    | true=>rw[h] at g;exact ye_itet g (jD (f:=6) rfl (wW (vs:=[rgA,.int c]) (by kernel_rfl)) (c_hf hc))
    | false=>rw[h] at g;exact ye_itef g (jD (f:=3) rfl (wW (vs:=[rgA,.int c]) (by kernel_rfl)) ((c_hs hc).mono (by decide)))
  · rfl
end
end
section
set_option backward.match.sparseCases false
open PySem
noncomputable def opB (o:Option Nat)(f:Nat→Bool):Bool:=@Option.rec Nat (fun q_=>Bool) false f o
noncomputable def nlAt (cs:List Nat)(j:Nat):Bool:=opB cs[j]? fun c=>Nat.beq c 10
noncomputable def wdAt (cs:List Nat)(j:Nat):Bool:=opB cs[j]? alnum
noncomputable def sdS (cs fl:List Nat)(a:Nat):Bool:=Nat.beq a 0||(mlOf fl&&nlAt cs (a-1))
noncomputable def sdE (cs fl:List Nat)(a:Nat):Bool:=Nat.beq a cs.length||(mlOf fl&&nlAt cs a)
noncomputable def sdB (o:Bool)(cs:List Nat)(a:Nat):Bool:=bne (bne (Nat.blt 0 a&&wdAt cs (a-1)) (wdAt cs a)) o
theorem str_beq (c d:Nat):JW .eq (.str [c]) (.str [d])=some (Nat.beq c d):=by
  cases h:Nat.beq c d with
  | true=>exact congrArg some (decide_eq_true (congrArg (fun c=>[c]) (Nat.eq_of_beq_eq_true h)))
  | false=>exact congrArg some (decide_eq_false fun q=>Nat.ne_of_beq_eq_false h (List.cons.inj q).1)
theorem zsub_str {H:AH}{xs:List Nat}{i c:Nat}(h:i≤line)(e:xs[i]? = some c):asub H (.str xs) (.int (i:Nat))=some (.str [c]):=by
  unfold asub
  refine(Option.bind_some ..).trans ?_
  dsimp only
  rw[if_pos (Int.natCast_nonneg i),at_nat h,e];rfl
section
variable {K:Nat}{F:AF}{P Q R:HP}{e k:XE}{a b:Bool}{cs:List Nat}{c j:Nat}
theorem ye_or2 {e1 e2:XE}(h:Ye K F e1 P (.bool a) P)(h2:Ye K F e2 P (.bool b) P):Ye K F (n_or [e1,e2]) P (.bool (a||b)) P:=by
  cases a with
  | true=>exact ye_ort h
  | false=>exact ye_orf h (ye_or1 h2)
theorem ye_lit {e1 e2:XE}{a b:Bool}(h:Ye K F e1 P (.bool a) P)(h2:a=true→Ye K F e2 P (.bool b) P):Ye K F (ZH [e1,e2]) P (.bool (a&&b)) P:=by
  cases a with
  | true=>exact JQ h (ye_and1 (h2 rfl))
  | false=>exact ye_andf h
theorem ye_litO {e1 e2:XE}{a b:Bool}(h:Ye K F e1 P (.bool a) P)(h2:a=false→Ye K F e2 P (.bool b) P):Ye K F (n_or [e1,e2]) P (.bool (a||b)) P:=by
  cases a with
  | true=>exact ye_ort h
  | false=>exact ye_orf h (ye_or1 (h2 rfl))
theorem ye_chr (h:Ye K F e P (.str cs) Q)(h2:Ye K F k Q (.int (j:Nat)) R)(hj:j≤line)(hc:cs[j]? = some c):Ye K F (zA e k) P (.str [c]) R:=ye_sub h h2 fun H q_=>zsub_str hj hc
theorem ye_ord (h:Ye K F e P (.str [c]) Q):Ye K F (zK (zB 42) [e]) P (.int (c:Nat)) Q:=ye_bi (f := .ord) rfl (zY h jF) fun H q_=>rfl
theorem ye_aln (h:Ye K F e P (.str [c]) Q)(hc:c∈LT):Ye K F (n_meth e Me.isalnum []) P (.bool (alnum c)) Q:=fun n hn =>
  zV (f:=fun x=>zZ (amty .isalnum x) fun q_=>zZ (evs GlT (ac n) F []) fun xs=>ame .isalnum x xs) (h n hn) (wD fun H=>by
    have q:c=97∨c=98∨c=10∨c=65:=by simpa using hc
    rcases q with rfl | rfl | rfl | rfl <;> kernel_rfl)
theorem ye_prv (h:Ye K F k P (.int ((j+1:Nat):Int)) P):Ye K F (jZ Op2.sub k (zX 1)) P (.int (j:Nat)) P:=JK (x := .int ((j+1:Nat):Int)) (y := .int 1) h (zW rfl) (congrArg (fun i=>some (AV.int i)) (sub1 j))
end
theorem lt_get {cs:List Nat}{j:Nat}(h:j<cs.length)(hc:∀ c∈cs,c∈LT):∃ c,cs[j]? = some c∧c∈LT:=⟨cs[j],List.getElem?_eq_getElem h,hc _ (List.getElem_mem h)⟩
theorem blt_cmp (a b:Nat):JW .lt (.int (a:Nat)) (.int (b:Nat))=some (Nat.blt a b):=by
  cases h:Nat.blt a b with
  | true=>exact lt_t (Nat.le_of_ble_eq_true h)
  | false=>exact lt_f (Nat.not_lt.mp fun q=>Bool.noConfusion ((Nat.ble_eq_true_of_le q).symm.trans h))
theorem bgt_cmp (a b:Nat):JW .gt (.int (a:Nat)) (.int (b:Nat))=some (Nat.blt b a):=blt_cmp b a
theorem ne_bool (a b:Bool):JW .ne (.bool a) (.bool b)=some (bne a b):=rfl
theorem TxOk.lin {cs fl:List Nat}(h:TxOk cs fl):cs.length≤line:=Nat.le_trans h.len (by decide)
section
variable {cs fl:List Nat}{a:Nat}{P:HP}{o:Bool}(T:TxOk cs fl)(ha:a≤cs.length)
include T ha
noncomputable abbrev FS4 (i:AV)(cs:List Nat)(a:Nat)(fl:List Nat):AF:=[some i,some (.str cs),some (.int a),some (.str fl)]
noncomputable abbrev kSta:AV := .str [115,116,97,114,116]
noncomputable abbrev kEnd:AV := .str [101,110,100]
noncomputable abbrev kBnd:AV := .str [98,111,117,110,100,97,114,121]
theorem w_start:Yc 1 (.fn 37) [.tup [kSta],.str cs,.int a,.str fl] P (.bool (sdS cs fl a)) P :=
  ZJ (f:=f_law_stands) (F:=FS4 (.tup [kSta]) cs a fl) rfl rfl (wX (zW (by kernel_rfl)) (jJ (ye_litO (jY (x := .int a) (y := .int 0) (zW rfl) (zW rfl) (beq_cmp a 0)) fun h=>ye_lit (zW rfl) fun q_=>by
    cases a with
    | zero=>cases h
    | succ j =>
      obtain⟨c,hc,hm⟩:=lt_get ha T.tx
      have e:nlAt cs (j+1-1)=Nat.beq c 10:=congrArg (fun o=>opB o fun c=>Nat.beq c 10) hc
      rw[e]
      exact jY (ye_chr (zW rfl) (ye_prv (zW rfl)) (Nat.le_trans (Nat.le_of_lt ha) T.lin) hc) (zW rfl) (str_beq c 10))))
theorem w_end:Yc 1 (.fn 37) [.tup [kEnd],.str cs,.int a,.str fl] P (.bool (sdE cs fl a)) P :=
  ZJ (f:=f_law_stands) (F:=FS4 (.tup [kEnd]) cs a fl) rfl rfl (wU 1 (F1:=FS4 (.tup [kEnd]) cs a fl) (by kernel_rfl) (wX (zW (by kernel_rfl)) (jJ (ye_litO (jY (x := .int a) (y := .int cs.length) (zW rfl) (JJ (zW rfl) T.lin) (beq_cmp a _)) fun h=>ye_lit (zW rfl) fun q_=>by
    obtain⟨c,hc,hm⟩:=lt_get (Nat.lt_of_le_of_ne ha (Nat.ne_of_beq_eq_false h)) T.tx
    have e:nlAt cs a=Nat.beq c 10:=congrArg (fun o=>opB o fun c=>Nat.beq c 10) hc
    rw[e]
    exact jY (ye_chr (zW rfl) (zW rfl) (Nat.le_trans ha T.lin) hc) (zW rfl) (str_beq c 10)))))
omit ha in
theorem w_word:Yc 1 (.fn 36) [.str cs,.int a] P (.bool (wdAt cs a)) P:=by
  refine ZJ (f:=f_law_is_word) (F:=[some (.str cs),some (.int a)]) (fl := .ret (.bool (wdAt cs a))) rfl rfl (jJ ?_)
  by_cases h:a<cs.length
  · obtain ⟨c,hc,hm⟩:=lt_get h T.tx
    have e:wdAt cs a=(true&&(alnum c||Nat.beq c 95)):=by
      show opB cs[a]? alnum=_
      rw[hc]
      have q:c=97∨c=98∨c=10∨c=65:=by simpa using hm
      rcases q with rfl | rfl | rfl | rfl <;> rfl
    rw[e]
    have g:Ye 0 [some (.str cs),some (.int (a:Nat))] (zA (zQ 0) (zQ 1)) P (.str [c]) P:=ye_chr (zW rfl) (zW rfl) (Nat.le_trans (Nat.le_of_lt h) T.lin) hc
    exact ye_and2 (ye_cmp2t (x := .int (0:Nat)) (y := .int a) (zW rfl) (zW rfl) (le_t (Nat.zero_le a)) (JJ (zW rfl) T.lin) (lt_t h)) (ye_or2 (ye_aln g hm) (jY g (zW rfl) (str_beq c 95)))
  · have e:wdAt cs a=false:=by
      show opB cs[a]? alnum=_
      rw[List.getElem?_eq_none (Nat.not_lt.mp h)];rfl
    rw[e]
    exact ye_andf (ye_cmp2t (x := .int (0:Nat)) (y := .int a) (zW rfl) (zW rfl) (le_t (Nat.zero_le a)) (JJ (zW rfl) T.lin) (lt_f (Nat.not_lt.mp h)))
theorem w_wordP:Ye 1 (FS4 (.tup [kBnd,.bool o]) cs a fl) (zK (zB 59) [(zQ 1),(jZ Op2.sub (zQ 2) (zX 1))]) P (.bool (Nat.blt 0 a&&wdAt cs (a-1))) P:=by
  cases a with
  | zero =>
    intro n hn
    obtain⟨m,_,rfl⟩:=wC hn
    exact wD fun H=>by kernel_rfl
  | succ j=>exact jD (f:=36) rfl (zY (zW rfl) (zY (ye_prv (zW rfl)) jF)) (w_word T)
theorem w_bnd:Yc 2 (.fn 37) [.tup [kBnd,.bool o],.str cs,.int a,.str fl] P (.bool (sdB o cs a)) P :=
  ZJ (f:=f_law_stands) (F:=FS4 (.tup [kBnd,.bool o]) cs a fl) rfl rfl (wU 2 (F1:=FS4 (.tup [kBnd,.bool o]) cs a fl) (by kernel_rfl) (jJ (jY (jY (w_wordP T ha) (jD (f:=36) rfl (wW rfl) (w_word T)) (ne_bool _ _)) (y := .bool o) (zW (by kernel_rfl)) (ne_bool _ _))))
end
section
variable {X:Cx}{s sl L a:Nat}{W:List AV}{o:Bool}(T:TxOk X.cs X.fl)(ha:a≤X.cs.length)
include T ha
noncomputable abbrev FV (s:Nat)(i:AV)(a:Nat)(cs:Option AV)(x y:Option AV):AF:=[some (.obj s),some i,some (.int a),cs,x,y]
noncomputable abbrev FVt (X:Cx)(s:Nat)(i:AV)(a:Nat)(x y:Option AV):AF:=FV s i a (some (.str X.cs)) x y
omit T ha in
theorem v_top {i:AV}{v:AV}{F':AF}{K:Nat}(h:Ys K (FVt X s i a none none) (f_Search_stands.body.drop 1) (SI X s sl L W) (.ret v) F' (SI X s sl L W)):Yc (K+1) (.fn 22) [.obj s,i,.int a] (SI X s sl L W) v (SI X s sl L W) :=
  ZJ (f:=f_Search_stands) (F:=FV s i a none none none) rfl rfl (zG (F1:=FVt X s i a none none) (jK s_text (by show 3<6;decide)) h)
theorem v_start:Yc 2 (.fn 22) [.obj s,.tup [.int 3],.int a] (SI X s sl L W) (.bool (sdS X.cs X.fl a)) (SI X s sl L W) :=
  v_top (wX (zW (by kernel_rfl)) (jJ (ye_litO (jY (x := .int a) (y := .int 0) (zW rfl) (zW rfl) (beq_cmp a 0)) fun h=>ye_lit s_ml fun q_=>by
    cases a with
    | zero=>cases h
    | succ j =>
      obtain⟨c,hc,hm⟩:=lt_get ha T.tx
      have e:nlAt X.cs (j+1-1)=Nat.beq c 10:=congrArg (fun o=>opB o fun c=>Nat.beq c 10) hc
      rw[e]
      exact jD (f:=0) rfl (zY (ye_ord (ye_chr (zW rfl) (ye_prv (zW rfl)) (Nat.le_trans (Nat.le_of_lt ha) T.lin) hc)) jF) (c_le hm))))
theorem v_end:Yc 2 (.fn 22) [.obj s,.tup [.int 4],.int a] (SI X s sl L W) (.bool (sdE X.cs X.fl a)) (SI X s sl L W) :=
  v_top (wU 1 (F1:=FVt X s (.tup [.int 4]) a none none) (by kernel_rfl) (wX (zW (by kernel_rfl)) (jJ (ye_litO (jY (x := .int a) (y := .int X.cs.length) (zW rfl) (JJ (zW rfl) T.lin) (beq_cmp a _)) fun h=>ye_lit s_ml fun q_=>by
    obtain⟨c,hc,hm⟩:=lt_get (Nat.lt_of_le_of_ne ha (Nat.ne_of_beq_eq_false h)) T.tx
    have e:nlAt X.cs a=Nat.beq c 10:=congrArg (fun o=>opB o fun c=>Nat.beq c 10) hc
    rw[e]
    exact jD (f:=0) rfl (zY (ye_ord (ye_chr (zW rfl) (zW rfl) (Nat.le_trans ha T.lin) hc)) jF) (c_le hm)))))
theorem v_bnd:Yc 3 (.fn 22) [.obj s,.tup [.int 5,.bool o],.int a] (SI X s sl L W) (.bool (sdB o X.cs a)) (SI X s sl L W):=by
  refine v_top (wU 2 (F1:=FVt X s (.tup [.int 5,.bool o]) a none none) (by kernel_rfl)
    (zG (F1:=FVt X s (.tup [.int 5,.bool o]) a (some (.bool (Nat.blt 0 a&&wdAt X.cs (a-1)))) none) (jK (ye_lit (jY (x := .int a) (y := .int (0:Nat)) (zW rfl) (zW rfl) (bgt_cmp a 0)) fun h=>?_) (by show 4<6;decide))
      (zG (F1:=FVt X s (.tup [.int 5,.bool o]) a (some (.bool (Nat.blt 0 a&&wdAt X.cs (a-1)))) (some (.bool (wdAt X.cs a)))) (jK ?_ (by show 5<6;decide))
        (jJ (jY (jY (x := .bool (Nat.blt 0 a&&wdAt X.cs (a-1))) (y := .bool (wdAt X.cs a)) (zW rfl) (zW rfl) (ne_bool _ _)) (y := .bool o) (zW (by kernel_rfl)) (ne_bool _ _))))))
  · cases a with
    | zero=>cases h
    | succ j =>
      obtain⟨c,hc,hm⟩:=lt_get ha T.tx
      have e:wdAt X.cs (j+1-1)=alnum c:=congrArg (fun o=>opB o alnum) hc
      rw[e]
      exact jD (f:=4) rfl (zY (ye_ord (ye_chr (zW rfl) (ye_prv (zW rfl)) (Nat.le_trans (Nat.le_of_lt ha) T.lin) hc)) jF) (c_wd hm)
  · by_cases h:a<X.cs.length
    · obtain⟨c,hc,hm⟩:=lt_get h T.tx
      have e:wdAt X.cs a=alnum c:=congrArg (fun o=>opB o alnum) hc
      rw[e]
      exact JQ (jY (x := .int a) (y := .int X.cs.length) (zW rfl) (JJ (zW rfl) T.lin) (lt_t h)) (ye_and1 (jD (f:=4) rfl (zY (ye_ord (ye_chr (zW rfl) (zW rfl) (Nat.le_trans ha T.lin) hc)) jF) (c_wd hm)))
    · have e:wdAt X.cs a=false:=by
        show opB X.cs[a]? alnum=_
        rw[List.getElem?_eq_none (Nat.not_lt.mp h)];rfl
      rw[e]
      exact ye_andf (jY (x := .int a) (y := .int X.cs.length) (zW rfl) (JJ (zW rfl) T.lin) (lt_f (Nat.not_lt.mp h)))
end
end
section
set_option backward.match.sparseCases false
open PySem
theorem str_bne (c d:Nat):JW .ne (.str [c]) (.str [d])=some (!Nat.beq c d):=congrArg (Option.map (!·)) (str_beq c d)
noncomputable abbrev agB:List XS:=[(wB (ZH [(zD OpC.ne (zQ 4) (zQ 5)),(n_not (ZH [(jU (zQ 0) Fld.ic),(zD OpC.eq (zK (zB 12) [(zK (zB 42) [(zQ 4)])]) (zK (zB 12) [(zK (zB 42) [(zQ 5)])]))]))]) [(jX jV)] [])]
noncomputable abbrev agT:XT:=t_tup [(zC 4 false),(zC 5 false)]
noncomputable abbrev FG (s:Nat)(g:AV)(a:Nat)(m:AV)(x y:Option AV):AF:=[some (.obj s),some g,some (.int a),some m,x,y]
noncomputable abbrev isE {α:Type}(l:List α)(n:Flo)(c:Flo):Flo:=@List.rec α (fun q_=>Flo) n (fun q_ q_ q_=>c) l
section
variable {X:Cx}{s sl L a b e:Nat}{W:List AV}(T:TxOk X.cs X.fl)
theorem ag_one {n:Nat}(hn:2≤n){g m:AV}{x y:Option AV}{p:Nat×Nat}(h1:p.1∈LT)(h2:p.2∈LT):Yl (zZ (agT.st GlT (ac n) (prA p) (FG s g a m x y)) fun F'=>exs GlT (ac n) jG agB F') (SI X s sl L W) ((if eqc (icOf X.fl) p.1 p.2=true then Flo.next else .ret .none),FG s g a m (some (.str [p.1])) (some (.str [p.2]))) (SI X s sl L W):=by
  refine zV (f:=fun F'=>exs GlT (ac n) jG agB F') (v:=FG s g a m (some (.str [p.1])) (some (.str [p.2]))) (wD fun H=>rfl) ?_
  have c:Ye 2 (FG s g a m (some (.str [p.1])) (some (.str [p.2]))) (ZH [(zD OpC.ne (zQ 4) (zQ 5)),(n_not (ZH [(jU (zQ 0) Fld.ic),(zD OpC.eq (zK (zB 12) [(zK (zB 42) [(zQ 4)])]) (zK (zB 12) [(zK (zB 42) [(zQ 5)])]))]))]) (SI X s sl L W) (.bool (!Nat.beq p.1 p.2 && !(icOf X.fl&&Nat.beq (upperOf p.1) (upperOf p.2)))) (SI X s sl L W) :=
    ye_and2 (jY (x := .str [p.1]) (y := .str [p.2]) (zW rfl) (zW rfl) (str_bne _ _)) (ye_not (ye_and2 s_ic (jY (jD (f:=5) rfl (zY (ye_ord (zW rfl)) jF) (c_cn h1)) (jD (f:=5) rfl (zY (ye_ord (zW rfl)) jF) (c_cn h2)) (beq_cmp _ _))))
  have q:(!Nat.beq p.1 p.2 && !(icOf X.fl&&Nat.beq (upperOf p.1) (upperOf p.2))) = !eqc (icOf X.fl) p.1 p.2:=(Bool.not_or ..).symm
  rw[q] at c
  cases h:eqc (icOf X.fl) p.1 p.2 with
  | true=>rw[h] at c;exact ZV c ZY n hn
  | false=>rw[h] at c;exact wX c (jJ (zW rfl)) n hn
theorem ag_for {g m:AV}:∀ (ps:List (Nat×Nat))(x y:Option AV),(∀ p∈ps,p.1∈LT∧p.2∈LT)→∃ x' y',∀ n,2≤n→Yl (afor (fun x F=>zZ (agT.st GlT (ac n) x F) fun F'=>exs GlT (ac n) jG agB F') (ps.map prA) (FG s g a m x y)) (SI X s sl L W) (isE (misL X.fl ps) .next (.ret .none),FG s g a m x' y') (SI X s sl L W)
  | [],x,y,_=>⟨x,y,fun n q_=>wQ⟩
  | p :: ps,x,y,h=>by
    have q:=fun n hn=>ag_one (X:=X) (s:=s) (sl:=sl) (L:=L) (a:=a) (W:=W) (n:=n) hn (g:=g) (m:=m) (x:=x) (y:=y) (h p (.head _)).1 (h p (.head _)).2
    have e:misL X.fl (p::ps)=(if eqc (icOf X.fl) p.1 p.2=true then misL X.fl ps else AV.int 1::misL X.fl ps):=rfl
    rw[e]
    cases hb:eqc (icOf X.fl) p.1 p.2 with
    | true =>
      rw[hb] at q
      obtain⟨x',y',r⟩:=ag_for ps (some (.str [p.1])) (some (.str [p.2])) fun q m=>h q (.tail _ m)
      exact⟨x',y',fun n hn=>zV (f:=fun p=>ZU (afor (fun x F=>zZ (agT.st GlT (ac n) x F) fun F'=>exs GlT (ac n) jG agB F') (ps.map prA)) p) (q n hn) (r n hn)⟩
    | false =>
      rw[hb] at q
      exact⟨_,_,fun n hn=>zV (f:=fun p=>ZU (afor (fun x F=>zZ (agT.st GlT (ac n) x F) fun F'=>exs GlT (ac n) jG agB F') (ps.map prA)) p) (q n hn) wQ⟩
theorem sub_nat {m k:Nat}(h:k≤m):abin .sub (.int (m:Nat)) (.int (k:Nat))=some (.int ((m-k:Nat):Int)):=congrArg (fun i=>some (AV.int i)) (Int.ofNat_sub h).symm
theorem v_none:Yc 1 (.fn 23) [.obj s,.none,.int a] (SI X s sl L W) (.int a) (SI X s sl L W) :=
  ZJ (f:=f_Search_again) (F:=[some (.obj s),some .none,some (.int a),none,none,none]) rfl rfl (wX (zW (by kernel_rfl)) (jJ (zW rfl)))
noncomputable abbrev ZD (b e:Nat):AV := .tup [.int b,.int e]
theorem v_end_ (hb:b≤e){K:Nat}{fl:Flo}{F':AF}(h:Ys K (FG s (ZD b e) a (.int ((a+e-b:Nat):Int)) none none) (f_Search_again.body.drop 2) (SI X s sl L W) fl F' (SI X s sl L W)):Yc (K+1) (.fn 23) [.obj s,ZD b e,.int a] (SI X s sl L W) fl.val (SI X s sl L W) :=
  ZJ (f:=f_Search_again) (F:=[some (.obj s),some (ZD b e),some (.int a),none,none,none]) rfl rfl (ZV (zW (by kernel_rfl))
    (zG (F1:=FG s (ZD b e) a (.int ((a+e-b:Nat):Int)) none none) (jK (JK (x := .int ((a+e:Nat):Int)) (y := .int b) (zW (by kernel_rfl)) (zW (by kernel_rfl)) (sub_nat (Nat.le_trans hb (Nat.le_add_left _ _)))) (by show 3<6;decide)) h))
include T
theorem v_long (hb:b≤e)(h:X.cs.length<a+e-b):Yc 1 (.fn 23) [.obj s,ZD b e,.int a] (SI X s sl L W) .none (SI X s sl L W) :=
  v_end_ (fl := .ret .none) hb (wX (jY (x := .int ((a+e-b:Nat):Int)) (y := .int X.cs.length) (zW rfl) (JJ s_text T.lin) (gt_t h)) (jJ (zW rfl)))
theorem v_loop (hb:b≤e)(he:e≤X.cs.length)(ha:a≤X.cs.length)(h:a+e-b≤X.cs.length):Yc 3 (.fn 23) [.obj s,ZD b e,.int a] (SI X s sl L W) (isE (misL X.fl (((X.cs.take e).drop b).zip ((X.cs.take (a+e-b)).drop a))) (Flo.ret (.int ((a+e-b:Nat):Int))) (.ret .none)).val (SI X s sl L W):=by
  have hl:=T.lin
  have sub:∀ {k m:Nat} {c:Nat},c∈(X.cs.take k).drop m→c∈LT:=fun h=>T.tx _ (List.mem_of_mem_take (List.mem_of_mem_drop h))
  obtain ⟨x',y',r⟩:=ag_for (X:=X) (s:=s) (sl:=sl) (L:=L) (a:=a) (W:=W) (g:=ZD b e) (m := .int ((a+e-b:Nat):Int)) (((X.cs.take e).drop b).zip ((X.cs.take (a+e-b)).drop a)) none none fun p m=>by
    have:=List.of_mem_zip (a:=p.1) (b:=p.2) m
    exact⟨sub this.1,sub this.2⟩
  have src:∀ n,Yl ((i_zip (n_slc (jU (zQ 0) Fld.text) (some (zA (zQ 1) (zX 0))) (some (zA (zQ 1) (zX 1)))) (n_slc (jU (zQ 0) Fld.text) (some (zQ 2)) (some (zQ 3)))).sr GlT (ac n) (FG s (ZD b e) a (.int ((a+e-b:Nat):Int)) none none)) (SI X s sl L W) ((((X.cs.take e).drop b).zip ((X.cs.take (a+e-b)).drop a)).map prA) (SI X s sl L W):=fun n =>
    zV (f:=fun v=>zZ ((n_slc (jU (zQ 0) Fld.text) (some (zQ 2)) (some (zQ 3))).ev GlT (ac n) (FG s (ZD b e) a (.int ((a+e-b:Nat):Int)) none none)) fun w=>zZ (jW (toStr v)) fun s=>zZ (jW (toStr w)) fun t=>zH (zipOf (s.map fun c => .str [c]) (t.map fun c => .str [c])))
      (ye_slc (K:=n) s_text (y := .int b) (z := .int e) (zW (by kernel_rfl)) (zW (by kernel_rfl)) (fun H q_=>zslc_str (Nat.le_trans hb he) (Nat.le_trans he hl) hl) n (Nat.le_refl n))
      (zV (f:=fun w=>zZ (jW (toStr (.str ((X.cs.take e).drop b)))) fun s=>zZ (jW (toStr w)) fun t=>zH (zipOf (s.map fun c => .str [c]) (t.map fun c => .str [c])))
        (ye_slc (K:=n) s_text (y := .int a) (z := .int ((a+e-b:Nat):Int)) (zW rfl) (zW rfl) (fun H q_=>zslc_str ha (Nat.le_trans h hl) hl) n (Nat.le_refl n))
        (by rw[←zip_str];exact wD fun H=>rfl))
  have f1:∀ n,2≤n→Yl ((s_for agT (i_zip (n_slc (jU (zQ 0) Fld.text) (some (zA (zQ 1) (zX 0))) (some (zA (zQ 1) (zX 1)))) (n_slc (jU (zQ 0) Fld.text) (some (zQ 2)) (some (zQ 3)))) agB).ex GlT (ac n) jG (FG s (ZD b e) a (.int ((a+e-b:Nat):Int)) none none)) (SI X s sl L W) (isE (misL X.fl (((X.cs.take e).drop b).zip ((X.cs.take (a+e-b)).drop a))) .next (.ret .none),FG s (ZD b e) a (.int ((a+e-b:Nat):Int)) x' y') (SI X s sl L W):=fun n hn =>
    zV (f:=fun xs=>afor (fun x F=>zZ (agT.st GlT (ac n) x F) fun F'=>exs GlT (ac n) jG agB F') xs (FG s (ZD b e) a (.int ((a+e-b:Nat):Int)) none none)) (src n) (r n hn)
  have f2:Ys 2 (FG s (ZD b e) a (.int ((a+e-b:Nat):Int)) none none) (f_Search_again.body.drop 3) (SI X s sl L W) (isE (misL X.fl (((X.cs.take e).drop b).zip ((X.cs.take (a+e-b)).drop a))) (Flo.ret (.int ((a+e-b:Nat):Int))) (.ret .none)) (FG s (ZD b e) a (.int ((a+e-b:Nat):Int)) x' y') (SI X s sl L W):=fun n hn =>
    zV (f:=fun p=>ZU (exs GlT (ac n) jG [jX (zQ 3)]) p) (f1 n hn) (by
      cases misL X.fl (((X.cs.take e).drop b).zip ((X.cs.take (a+e-b)).drop a)) with
      | nil=>exact jJ (K:=2) (r:=[]) (F:=FG s (ZD b e) a (.int ((a+e-b:Nat):Int)) x' y') (e:=zQ 3) (zW rfl) n hn
      | cons _ _=>exact wQ)
  exact v_end_ hb (ZV (jY (x := .int ((a+e-b:Nat):Int)) (y := .int X.cs.length) (zW rfl) (JJ s_text hl) (gt_f h)) f2)
end
end
section
set_option backward.match.sparseCases false
open PySem
noncomputable abbrev stA (pc a:Nat)(g lp:List AV):AV := .tup [.int pc,.int a,.tup g,.tup lp]
noncomputable def Adv (X:Cx)(d:Nat)(i st:AV)(W':List AV)(v:AV)(n p:Nat):Prop:=∀ s sl M W,W.length+p≤line→Yc (3 * d+5) (.fn 20) [.obj s,i,st] (SI X s sl (M+n) W) v (SI X s sl M (W++W'))
noncomputable abbrev FD (s:Nat)(i:AV)(k:Int)(pc a:Nat)(g lp:List AV)(m e:Option AV):AF:=[some (.obj s),some i,some (stA pc a g lp),some (.int k),some (.int pc),some (.int a),some (.tup g),some (.tup lp),m,e]
section
variable {X:Cx}{d pc a:Nat}{g lp:List AV}{r:List AV}{k:Int}{v:AV}{W':List AV}
theorem adv_top {s sl L L' K:Nat}{W V:List AV}{F':AF}(h:Ys K (FD s (.tup (.int k::r)) k pc a g lp none none) (f_Search_advance.body.drop 1) (SI X s sl L W) (.ret v) F' (SI X s sl L' V)):Yc (K+1) (.fn 20) [.obj s,.tup (.int k::r),stA pc a g lp] (SI X s sl L W) v (SI X s sl L' V) :=
  ZJ (f:=f_Search_advance) (F:=[some (.obj s),some (.tup (.int k::r)),some (stA pc a g lp),none,none,none,none,none,none,none]) rfl rfl (wU 1 (F1:=FD s (.tup (.int k::r)) k pc a g lp none none) (by kernel_rfl) h)
theorem le5 (d:Nat):5≤3 * d+5:=Nat.le_add_left _ _
theorem adv_of (h:∀ s sl M W,W.length<line→Yc 5 (.fn 20) [.obj s,.tup (.int k::r),stA pc a g lp] (SI X s sl M W) v (SI X s sl M (W++W'))):Adv X d (.tup (.int k::r)) (stA pc a g lp) W' v 0 1:=fun s sl M W hw=>(h s sl M W hw).mono (le5 d)
theorem nil_app {s sl L K:Nat}{f:AV}{xs W:List AV}{P:HP}(h:Yc K f xs P v (SI X s sl L W)):Yc K f xs P v (SI X s sl L (W++[])):=by rw[List.append_nil];exact h
noncomputable abbrev sgX:XE:=ZH [(zD OpC.lt (zQ 5) (zK (zB 39) [(jU (zQ 0) Fld.text)])),(ZK (zQ 0) 8 [(zQ 1),(zK (zB 42) [(zA (jU (zQ 0) Fld.text) (zQ 5))])])]
theorem adv_sgn {b:Bool}(hk:JW .le (.int k) (.int 2)=some true)(T:TxOk X.cs X.fl)(h:∀ s sl M W,Ye 4 (FD s (.tup (.int k::r)) k pc a g lp none none) sgX (SI X s sl M W) (.bool b) (SI X s sl M W)):Adv X d (.tup (.int k::r)) (stA pc a g lp) [] (if b=true then stA (pc+1) (a+1) g lp else .none) 0 1 :=
  adv_of fun s sl M W q_=>nil_app (adv_top (F':=FD s (.tup (.int k::r)) k pc a g lp (some (.bool b)) none) (wX (jY (x := .int k) (y := .int 2) (zW rfl) (zW rfl) hk) (zG (F1:=FD s (.tup (.int k::r)) k pc a g lp (some (.bool b)) none) (jK (h s sl M W) (by show 8<10;decide)) (jJ (by cases b <;> exact zW (by kernel_rfl))))))
theorem sg_end (T:TxOk X.cs X.fl)(ha:X.cs.length≤a){s sl M:Nat}{W:List AV}:Ye 4 (FD s (.tup (.int k::r)) k pc a g lp none none) sgX (SI X s sl M W) (.bool false) (SI X s sl M W) :=
  ye_andf (jY (x := .int a) (y := .int X.cs.length) (zW rfl) (JJ s_text T.lin) (lt_f ha))
theorem sg_in (T:TxOk X.cs X.fl){c:Nat}{b:Bool}(hc:X.cs[a]? = some c)(ht:∀ s sl M W,Yc 4 (.fn 21) [.obj s,.tup (.int k::r),.int c] (SI X s sl M W) (.bool b) (SI X s sl M W)){s sl M:Nat}{W:List AV}:Ye 4 (FD s (.tup (.int k::r)) k pc a g lp none none) sgX (SI X s sl M W) (.bool b) (SI X s sl M W) :=
  JQ (jY (x := .int a) (y := .int X.cs.length) (zW rfl) (JJ s_text T.lin) (lt_t (List.getElem?_eq_some_iff.mp hc).1)) (ye_and1 (ye_own (j:=21) (zW rfl) (fun H h=>s_inst h) (fun q=>nomatch q) rfl (zY (zW rfl) (zY (ye_ord (ye_chr s_text (zW rfl) (Nat.le_trans (Nat.le_of_lt (List.getElem?_eq_some_iff.mp hc).1) T.lin) hc)) jF)) (ht s sl M W)))
theorem adv_std {b:Bool}(hk:JW .le (.int k) (.int 2)=some false)(hk2:JW .le (.int k) (.int 5)=some true)(h:∀ s sl M W,Yc 3 (.fn 22) [.obj s,.tup (.int k::r),.int a] (SI X s sl M W) (.bool b) (SI X s sl M W)):Adv X d (.tup (.int k::r)) (stA pc a g lp) [] (if b=true then stA (pc+1) a g lp else .none) 0 1 :=
  adv_of fun s sl M W q_=>nil_app (adv_top (ZV (jY (x := .int k) (y := .int 2) (zW rfl) (zW rfl) hk) (wX (jY (x := .int k) (y := .int 5) (zW rfl) (zW rfl) hk2) (jJ (by
    have q:Ye 4 (FD s (.tup (.int k::r)) k pc a g lp none none) (ZK (zQ 0) 9 [(zQ 1),(zQ 5)]) (SI X s sl M W) (.bool b) (SI X s sl M W):=ye_own (j:=22) (zW rfl) (fun H h=>s_inst h) (fun q=>nomatch q) rfl (wW rfl) ((h s sl M W).mono (by decide))
    cases b
    · exact ye_itef q (zW rfl)
    · exact ye_itet q (zW (by kernel_rfl)))))))
theorem ix_sub {n:Nat}{P:HP}{F:AF}{K:Nat}{e1 e2:XE}(h:n≤lp.length)(hl:lp.length≤line)(h1:Ye K F e1 P (.tup lp) P)(h2:Ye K F e2 P (.int (n:Nat)) P):Ye K F (jZ Op2.sub (zK (zB 39) [e1]) e2) P (.int ((lp.length-n:Nat):Int)) P :=
  JK (x := .int lp.length) (y := .int n) (ye_lenT h1 hl) h2 (sub_nat h)
theorem adv_opn {n:Nat}(h0:0<n)(hn:n≤lp.length)(hl:lp.length≤line):Adv X d (.tup [.int 6,.int n]) (stA pc a g lp) [] (stA (pc+1) a g (lp.set (lp.length-n) (.int a))) 0 1 :=
  adv_of fun s sl M W q_=>nil_app (adv_top (wU 2 (F1:=FD s (.tup [.int 6,.int n]) 6 pc a g lp none none) (by kernel_rfl) (wX (zW (by kernel_rfl)) (jJ (ye_tup (zY (zW (by kernel_rfl)) (zY (zW (by kernel_rfl)) (zY (zW (by kernel_rfl)) (zY
    (jD (f:=17) rfl (zY (zW rfl) (zY (ix_sub hn hl (zW rfl) (zW (by kernel_rfl))) (zY (zW rfl) jF))) ((c_changed (Nat.sub_lt (Nat.lt_of_lt_of_le h0 hn) h0) hl).mono (by decide))) jF)))))))))
theorem adv_cls {n:Nat}{b:Nat}(hn:n+1≤lp.length)(hl:lp.length≤line)(hg:n<g.length)(hgl:g.length≤line)(hb:lp[lp.length-(n+1)]? = some (.int b)):Adv X d (.tup [.int 7,.int ((n+1:Nat):Int)]) (stA pc a g lp) [] (stA (pc+1) a (g.set n (ZD b a)) lp) 0 1 :=
  adv_of fun s sl M W q_=>nil_app (adv_top (wU 3 (F1:=FD s (.tup [.int 7,.int ((n+1:Nat):Int)]) 7 pc a g lp none none) (by kernel_rfl) (wX (zW (by kernel_rfl)) (jJ (ye_tup (zY (zW (by kernel_rfl)) (zY (zW (by kernel_rfl)) (zY
    (jD (f:=17) rfl (zY (zW rfl) (zY (ye_prv (zW (by kernel_rfl))) (zY (ye_tup (zY (ye_sub (zW rfl) (ix_sub hn hl (zW rfl) (zW (by kernel_rfl))) fun H q_=>zsub_tup (Nat.le_trans (Nat.sub_le _ _) hl) hb) (zY (zW rfl) jF))) jF))) ((c_changed hg hgl).mono (by decide))) (zY (zW (by kernel_rfl)) jF)))))))))
theorem adv_bckN {n:Nat}{x:AV}(hx:g[n]? = some x)(hg:g.length≤line)(h:∀ s sl M W,Yc 3 (.fn 23) [.obj s,x,.int a] (SI X s sl M W) .none (SI X s sl M W)):Adv X d (.tup [.int 8,.int ((n+1:Nat):Int)]) (stA pc a g lp) [] .none 0 1 :=
  adv_of fun s sl M W q_=>nil_app (adv_top (wU 4 (F1:=FD s (.tup [.int 8,.int ((n+1:Nat):Int)]) 8 pc a g lp none none) (by kernel_rfl) (wX (zW (by kernel_rfl)) (zG (F1:=FD s (.tup [.int 8,.int ((n+1:Nat):Int)]) 8 pc a g lp none (some .none))
    (jK (ye_own (j:=23) (zW rfl) (fun H h=>s_inst h) (fun q=>nomatch q) rfl (zY (ye_sub (zW rfl) (ye_prv (zW (by kernel_rfl))) fun H q_=>zsub_tup (Nat.le_trans (Nat.le_of_lt (List.getElem?_eq_some_iff.mp hx).1) hg) hx) (zY (zW rfl) jF)) ((h s sl M W).mono (by decide))) (by show 9<10;decide)) (jJ (zW (by kernel_rfl)))))))
theorem adv_bckS {n e:Nat}{x:AV}(hx:g[n]? = some x)(hg:g.length≤line)(h:∀ s sl M W,Yc 3 (.fn 23) [.obj s,x,.int a] (SI X s sl M W) (.int e) (SI X s sl M W)):Adv X d (.tup [.int 8,.int ((n+1:Nat):Int)]) (stA pc a g lp) [] (stA (pc+1) e g lp) 0 1 :=
  adv_of fun s sl M W q_=>nil_app (adv_top (wU 4 (F1:=FD s (.tup [.int 8,.int ((n+1:Nat):Int)]) 8 pc a g lp none none) (by kernel_rfl) (wX (zW (by kernel_rfl)) (zG (F1:=FD s (.tup [.int 8,.int ((n+1:Nat):Int)]) 8 pc a g lp none (some (.int e)))
    (jK (ye_own (j:=23) (zW rfl) (fun H h=>s_inst h) (fun q=>nomatch q) rfl (zY (ye_sub (zW rfl) (ye_prv (zW (by kernel_rfl))) fun H q_=>zsub_tup (Nat.le_trans (Nat.le_of_lt (List.getElem?_eq_some_iff.mp hx).1) hg) hx) (zY (zW rfl) jF)) ((h s sl M W).mono (by decide))) (by show 9<10;decide)) (jJ (zW (by kernel_rfl)))))))
theorem adv_spl {p q:Nat}:Adv X d (.tup [.int 10,.int p,.int q]) (stA pc a g lp) [stA q a g lp] (stA p a g lp) 0 1 :=
  adv_of fun s sl M W hw=>adv_top (wU 6 (F1:=FD s (.tup [.int 10,.int p,.int q]) 10 pc a g lp none none) (by kernel_rfl) (wX (zW (by kernel_rfl)) (zG (s_push hw fun wl=>zW (by kernel_rfl)) (jJ (zW (by kernel_rfl))))))
theorem adv_jmp {p:Nat}:Adv X d (.tup [.int 11,.int p]) (stA pc a g lp) [] (stA p a g lp) 0 1 :=
  adv_of fun s sl M W hw=>nil_app (adv_top (wU 7 (F1:=FD s (.tup [.int 11,.int p]) 11 pc a g lp none none) (by kernel_rfl) (wX (zW (by kernel_rfl)) (jJ (zW (by kernel_rfl))))))
end
end
section
set_option backward.match.sparseCases false
open PySem
theorem yx_to {K:Nat}{F F':AF}{e:XE}{t:XT}{P Q:HP}{v:AV}(h:Ye K F e P v Q)(k:T0_ t v F=V0 F'):Yx K F (zU t e) P F' Q:=fun n hn =>
  zV (f:=fun v=>zZ (t.st GlT (ac n) v F) fun F'=>zH (Flo.next,F')) (h n hn) (zV (f:=fun F'=>zH (Flo.next,F')) (wD (r0 k n)) wQ)
noncomputable abbrev FP (s:Nat)(i:AV)(pc a:Nat)(g lp:List AV)(c b l m z f h o v x y:Option AV):AF:=[some (.obj s),some i,some (stA pc a g lp),some (.int pc),some (.int a),some (.tup g),some (.tup lp),c,b,l,m,z,f,h,o,v,x,y]
noncomputable abbrev FP0 (s:Nat)(i:AV)(pc a:Nat)(g lp:List AV)(c b:Option AV):AF:=FP s i pc a g lp c b none none none none none none none none none
section
variable {X:Cx}{d pc a:Nat}{g lp:List AV}{j c b:Nat}{v:AV}{W':List AV}
theorem adv_rep {k:Int}{r:List AV}(hk:∀ s,X0 ((f_Search_advance.body.drop 1).take 8) (FD s (.tup (.int k::r)) k pc a g lp none none)=V0 (.next,FD s (.tup (.int k::r)) k pc a g lp none none))
    (h:∀ s sl M W,W.length<line→Yc 3 (.fn 25) [.obj s,.tup (.int k::r),stA pc a g lp] (SI X s sl M W) v (SI X s sl M (W++W'))):Adv X d (.tup (.int k::r)) (stA pc a g lp) W' v 0 1 :=
  adv_of fun s sl M W hw=>adv_top (F':=FD s (.tup (.int k::r)) k pc a g lp none none) (wU 8 (hk s) (jJ (ye_own (j:=25) (zW rfl) (fun H h=>s_inst h) (fun q=>nomatch q) rfl (wW rfl) ((h s sl M W hw).mono (by decide)))))
theorem rep_top {s sl L L' K:Nat}{W V:List AV}{i:AV}{F':AF}(h:Ys K (FP0 s i pc a g lp none none) (f_Search_repeat.body.drop 1) (SI X s sl L W) (.ret v) F' (SI X s sl L' V)):Yc (K+1) (.fn 25) [.obj s,i,stA pc a g lp] (SI X s sl L W) v (SI X s sl L' V) :=
  ZJ (f:=f_Search_repeat) (F:=[some (.obj s),some i,some (stA pc a g lp),none,none,none,none,none,none,none,none,none,none,none,none,none,none,none]) rfl rfl (wU 1 (F1:=FP0 s i pc a g lp none none) (by kernel_rfl) h)
theorem ch_lp {K:Nat}{F:AF}{P:HP}{e1 e2 e3:XE}(hj:j<lp.length)(hl:lp.length≤line)(h1:Ye (K+1) F e1 P (.tup lp) P)(h2:Ye (K+1) F e2 P (.int (j:Nat)) P)(h3:Ye (K+1) F e3 P v P):Ye (K+1) F (zK (zB 34) [e1,e2,e3]) P (.tup (lp.set j v)) P :=
  jD (f:=17) rfl (zY h1 (zY h2 (zY h3 jF))) ((c_changed hj hl).mono (Nat.succ_le_succ (Nat.zero_le K)))
theorem adv_lop (hj:j<lp.length)(hl:lp.length≤line):Adv X d (.tup [.int 12,.int j]) (stA pc a g lp) [] (stA (pc+1) a g (lp.set j (ZD 0 a))) 0 1 :=
  adv_rep (fun s=>by kernel_rfl) fun s sl M W hw=>nil_app (rep_top (wX (zW (by kernel_rfl)) (jJ (ye_tup (zY (zW (by kernel_rfl)) (zY (zW (by kernel_rfl)) (zY (zW (by kernel_rfl)) (zY (ch_lp hj hl (zW rfl) (zW (by kernel_rfl)) (zW (by kernel_rfl))) jF))))))))
noncomputable abbrev FPc (s:Nat)(i:AV)(pc a:Nat)(g lp:List AV)(c b:Nat):AF:=FP0 s i pc a g lp (some (.int c)) (some (.int b))
theorem rep_cnt {s sl L L' K:Nat}{W V:List AV}{k:Int}{r:List AV}{F':AF}(hk:E0 (zD OpC.eq (zA (zQ 1) (zX 0)) (zB 28)) (FP0 s (.tup (.int k :: .int j::r)) pc a g lp none none)=V0 (.bool false))(hl:lp.length≤line)(hj:lp[j]? = some (ZD c b))
    (h:Ys K (FPc s (.tup (.int k :: .int j::r)) pc a g lp c b) (f_Search_repeat.body.drop 3) (SI X s sl L W) (.ret v) F' (SI X s sl L' V)):Yc (K+1) (.fn 25) [.obj s,.tup (.int k :: .int j::r),stA pc a g lp] (SI X s sl L W) v (SI X s sl L' V) :=
  rep_top (ZV (zW hk) (zG (yx_to (ye_sub (zW rfl) (zW (by kernel_rfl)) fun H q_=>zsub_tup (Nat.le_trans (Nat.le_of_lt (List.getElem?_eq_some_iff.mp hj).1) hl) hj) (by kernel_rfl)) h))
noncomputable abbrev iTal (j least head:Nat):AV := .tup [.int 14,.int j,.int least,.int head]
theorem adv_talN {least head:Nat}(hl:lp.length≤line)(hj:lp[j]? = some (ZD c a))(hc:least≤c):Adv X d (iTal j least head) (stA pc a g lp) [] .none 0 1 :=
  adv_rep (fun s=>by kernel_rfl) fun s sl M W hw=>nil_app (rep_cnt (by kernel_rfl) hl hj (wX (zW (by kernel_rfl)) (wX (JQ (jY (x := .int c) (y := .int least) (zW rfl) (zW (by kernel_rfl)) (ge_t hc)) (ye_and1 (jY (x := .int a) (y := .int a) (zW rfl) (zW rfl) (eq_t rfl)))) (jJ (zW rfl)))))
theorem adv_talG {least head:Nat}(hl:lp.length≤line)(hj:lp[j]? = some (ZD c b))(hc:c<least∨b≠a):Adv X d (iTal j least head) (stA pc a g lp) [] (stA head a g (lp.set j (ZD (c+1) a))) 0 1:=by
  refine adv_rep (fun s=>by kernel_rfl) fun s sl M W hw=>nil_app (rep_cnt (by kernel_rfl) hl hj (wX (zW (by kernel_rfl)) (ZV ?_ (jJ (ye_tup (zY (zW (by kernel_rfl)) (zY (zW rfl) (zY (zW rfl) (zY (ch_lp (List.getElem?_eq_some_iff.mp hj).1 hl (zW rfl) (zW (by kernel_rfl)) (zW (by kernel_rfl))) jF)))))))))
  by_cases h:c<least
  · exact ye_andf (jY (x := .int c) (y := .int least) (zW rfl) (zW (by kernel_rfl)) (ge_f h))
  · exact JQ (jY (x := .int c) (y := .int least) (zW rfl) (zW (by kernel_rfl)) (ge_t (Nat.not_lt.mp h))) (ye_and1 (jY (x := .int b) (y := .int a) (zW rfl) (zW rfl) (eq_f (hc.resolve_left h))))
noncomputable abbrev iHed (j least:Nat)(most:Option Nat)(lz:Bool)(first last out:Nat):AV := .tup [.int 13,.int j,.int least,mostA most,.bool lz,.int first,.int last,.int out]
variable {least first last out:Nat}{most:Option Nat}{lz:Bool}
noncomputable abbrev FPh (s:Nat)(i:AV)(pc a:Nat)(g g' lp:List AV)(c b least:Nat)(most:Option Nat)(lz:Bool)(first last out:Nat)(x y:Option AV):AF:=[some (.obj s),some i,some (stA pc a g lp),some (.int pc),some (.int a),some (.tup g'),some (.tup lp),some (.int c),some (.int b),some (.int least),some (mostA most),some (.bool lz),some (.int first),some (.int last),some (.int out),some (stA out a g lp),x,y]
noncomputable abbrev FPH (s j:Nat)(pc a:Nat)(g g' lp:List AV)(c b least:Nat)(most:Option Nat)(lz:Bool)(first last out:Nat)(x y:Option AV):AF:=FPh s (iHed j least most lz first last out) pc a g g' lp c b least most lz first last out x y
theorem hed_top {s sl L L' K:Nat}{W V:List AV}{F':AF}(hl:lp.length≤line)(hj:lp[j]? = some (ZD c b))(h:Ys K (FPH s j pc a g g lp c b least most lz first last out none none) (f_Search_repeat.body.drop 6) (SI X s sl L W) (.ret v) F' (SI X s sl L' V)):Yc (K+1) (.fn 25) [.obj s,iHed j least most lz first last out,stA pc a g lp] (SI X s sl L W) v (SI X s sl L' V) :=
  rep_cnt (by kernel_rfl) hl hj (ZV (zW (by kernel_rfl)) (wU 2 (F1:=FPH s j pc a g g lp c b least most lz first last out none none) (by kernel_rfl) h))
theorem h_cond {s K:Nat}{P:HP}:Ye K (FPH s j pc a g g lp c b least most lz first last out none none) (ZH [(zD OpC.isNot (zQ 10) jV),(zD OpC.ge (zQ 7) (zQ 10))]) P (.bool (over most c)) P:=by
  cases most with
  | none=>exact ye_andf (zW (by kernel_rfl))
  | some m =>
    refine JQ (zW (by kernel_rfl)) (ye_and1 (jY (x := .int c) (y := .int m) (zW rfl) (zW rfl) ?_))
    cases h:over (some m) c with
    | true=>exact ge_t (Nat.le_of_ble_eq_true h)
    | false=>exact ge_f (Nat.not_le.mp (Nat.not_le_of_not_ble_eq_true (fun q=>Bool.noConfusion (q.symm.trans h))))
theorem adv_hedO (hl:lp.length≤line)(hj:lp[j]? = some (ZD c b))(h:over most c=true):Adv X d (iHed j least most lz first last out) (stA pc a g lp) [] (stA out a g lp) 0 1 :=
  adv_rep (fun s=>by kernel_rfl) fun s sl M W hw=>nil_app (hed_top hl hj (wX (h▸h_cond) (jJ (zW rfl))))
noncomputable def setZ (k:Nat):Nat→List AV→List AV:=@Nat.rec (fun q_=>Nat→List AV→List AV) (fun q_ g=>g) (fun q_ ih j g=>ih (j+1) (g.set j .none)) k
theorem setZ_len:∀ (k j:Nat)(g:List AV),(setZ k j g).length=g.length
  | 0,_,_=>rfl
  | k+1,j,g=>(setZ_len k (j+1) (g.set j .none)).trans List.length_set
theorem setZ_at:∀ (k j:Nat)(g:List AV)(i:Nat),(setZ k j g)[i]? = if j≤i∧i<j+k then(g[i]?).map fun q_=>AV.none else g[i]?
  | 0,j,g,i=>by rw[if_neg fun q=>absurd q.2 (Nat.not_lt.mpr q.1)];rfl
  | k + 1,j,g,i=>by
    refine(setZ_at k (j+1) (g.set j .none) i).trans ?_
    by_cases e:j=i
    · subst e
      rw[if_neg fun q=>absurd q.1 (Nat.not_succ_le_self j),if_pos ⟨Nat.le_refl j,Nat.lt_add_of_pos_right (Nat.succ_pos k)⟩,List.getElem?_set]
      by_cases h:j<g.length
      · rw[if_pos rfl,if_pos h,List.getElem?_eq_getElem h];rfl
      · rw[if_pos rfl,if_neg h,List.getElem?_eq_none (Nat.not_lt.mp h)];rfl
    · rw[List.getElem?_set_ne e]
      by_cases q:j+1≤i∧i<j+1+k
      · rw[if_pos q,if_pos ⟨Nat.le_of_succ_le q.1,by rw[Nat.add_comm k 1,←Nat.add_assoc];exact q.2⟩]
      · rw[if_neg q,if_neg fun r=>q ⟨Nat.lt_of_le_of_ne r.1 e,by rw[Nat.add_assoc,Nat.add_comm 1 k];exact r.2⟩]
theorem clr_at (f l:Nat):∀ (g:List AV)(m i:Nat),(clrA f l g m)[i]? = (g[i]?).map fun x=>if f≤m+i+1∧m+i+1<l then AV.none else x
  | [],_,_=>rfl
  | x::r,m,0=>rfl
  | x::r,m,i+1=>by
    refine(clr_at f l r (m+1) i).trans ?_
    rw[Nat.add_right_comm m 1 i];rfl
theorem set_clr {f m:Nat}(hf:f≤m)(g:List AV):setZ (m-f) f g=clrA (f+1) (m+1) g 0:=List.ext_getElem? fun i=>by
  rw[setZ_at,clr_at,Nat.zero_add,Nat.add_sub_cancel' hf]
  by_cases q:f≤i∧i<m
  · rw[if_pos q]
    exact congrArg (fun f=>(g[i]?).map f) (funext fun x=>(if_pos ⟨Nat.succ_le_succ q.1,Nat.succ_lt_succ q.2⟩).symm)
  · rw[if_neg q]
    cases g[i]? with
    | none=>rfl
    | some x=>exact congrArg some (if_neg fun k=>q ⟨Nat.le_of_succ_le_succ k.1,Nat.lt_of_succ_lt_succ k.2⟩).symm
theorem h_for {s K:Nat}{P:HP}(hg:g.length≤line){y:Option AV}:∀ (k q:Nat)(g':List AV)(x:Option AV),g'.length=g.length→q+k≤g.length→∃ x',∀ n,K+1≤n→Yl (afor (fun x F=>zZ ((zC 16 false).st GlT (ac n) x F) fun F'=>exs GlT (ac n) jG [(zU (zC 5 false) (zK (zB 34) [(zQ 5),(jZ Op2.sub (zQ 16) (zX 1)),jV]))] F') ((List.range k).map fun i:Nat=>AV.int (((q+1:Nat):Int)+(i:Int))) (FPH s j pc a g g' lp c b least most lz first last out x y)) P (.next,FPH s j pc a g (setZ k q g') lp c b least most lz first last out x' y) P
  | 0,q,g',x,_,_=>⟨x,fun n q_=>wQ⟩
  | k + 1,q,g',x,e,h=>by
    obtain⟨x',r⟩:=h_for hg (y:=y) k (q+1) (g'.set q .none) (some (.int ((q+1:Nat):Int))) (List.length_set.trans e) (Nat.le_trans (Nat.le_of_eq (Nat.add_right_comm q 1 k)) h)
    refine⟨x',fun n hn=>?_⟩
    have l:((List.range (k+1)).map fun i:Nat=>AV.int (((q+1:Nat):Int)+(i:Int)))=AV.int ((q+1:Nat):Int)::(List.range k).map fun i:Nat=>AV.int (((q+1+1:Nat):Int)+(i:Int)):=by
      rw[List.range_succ_eq_map,List.map_cons,List.map_map]
      refine congrArg (AV.int ((q+1:Nat):Int)::·) (congrArg (fun f=>(List.range k).map f) (funext fun i=>congrArg AV.int ?_))
      show((q+1:Nat):Int)+((i:Int)+1)=((q+1:Nat):Int)+1+(i:Int)
      rw[Int.add_comm (i:Int) 1,←Int.add_assoc]
    rw[l]
    refine zV (f:=fun p=>ZU (afor (fun x F=>zZ ((zC 16 false).st GlT (ac n) x F) fun F'=>exs GlT (ac n) jG [(zU (zC 5 false) (zK (zB 34) [(zQ 5),(jZ Op2.sub (zQ 16) (zX 1)),jV]))] F') ((List.range k).map fun i:Nat=>AV.int (((q+1+1:Nat):Int)+(i:Int)))) p) (v:=(Flo.next,FPH s j pc a g (g'.set q .none) lp c b least most lz first last out (some (.int ((q+1:Nat):Int))) y))
      (zV (f:=fun F'=>exs GlT (ac n) jG [(zU (zC 5 false) (zK (zB 34) [(zQ 5),(jZ Op2.sub (zQ 16) (zX 1)),jV]))] F') (v:=FPH s j pc a g g' lp c b least most lz first last out (some (.int ((q+1:Nat):Int))) y) (wD fun H=>by kernel_rfl) ?_) (r n hn)
    exact zG (K:=K+1) (jK (ch_lp (K:=K) (by rw[e];exact Nat.lt_of_lt_of_le (Nat.lt_add_of_pos_right (Nat.succ_pos k)) h) (by rw[e];exact hg) (zW rfl) (ye_prv (zW rfl)) (zW rfl)) (by show 5<18;decide)) ZY n hn
end
end
section
set_option backward.match.sparseCases false
open PySem
theorem small_nat {a:Nat}(h:a≤line):small (a:Int)=true:=by
  have e:bits=2 ^ 62:=rfl
  unfold small
  rw[e,decide_eq_true (lt62 h),decide_eq_true (Int.lt_of_lt_of_le (by decide) (Int.natCast_nonneg a))];rfl
section
variable {X:Cx}{d pc a:Nat}{g lp:List AV}{j c b:Nat}{v:AV}{W':List AV}
variable {least f m out:Nat}{most:Option Nat}{lz:Bool}
theorem h_rng {s n:Nat}{P:HP}{x y:Option AV}(hf:f≤m)(hm:m<line):Yl ((i_range2 (zQ 12) (zQ 13)).sr GlT (ac n) (FPH s j pc a g g lp c b least most lz (f+1) (m+1) out x y)) P ((List.range (m-f)).map fun i:Nat=>AV.int (((f+1:Nat):Int)+(i:Int))) P:=by
  have e:ZC ((f+1:Nat):Int) ((m+1:Nat):Int)=(List.range (m-f)).map fun i:Nat=>AV.int (((f+1:Nat):Int)+(i:Int)):=by
    unfold ZC
    rw[Int.toNat_sub,Nat.add_sub_add_right]
  rw[←e]
  have q:(small ((f+1:Nat):Int)&&small ((m+1:Nat):Int))=true:=by rw[small_nat (Nat.le_trans (Nat.succ_le_succ hf) hm),small_nat hm];rfl
  exact y_rng2 (wD fun H=>rfl) (wD fun H=>rfl) q
noncomputable abbrev onceA (pc a:Nat)(g lp:List AV)(j c f m:Nat):AV:=stA (pc+1) a (clrA (f+1) (m+1) g 0) (lp.set j (ZD c a))
theorem hed_in {s sl M K:Nat}{W V:List AV}(hl:lp.length≤line)(hgl:g.length<line)(hj:lp[j]? = some (ZD c b))(ho:over most c=false)(hf:f≤m)(hm:m≤g.length)
    (h:∀ x,Ys (K+1) (FPH s j pc a g (clrA (f+1) (m+1) g 0) lp c b least most lz (f+1) (m+1) out x (some (onceA pc a g lp j c f m))) (f_Search_repeat.body.drop 9) (SI X s sl M W) (.ret v) (FPH s j pc a g (clrA (f+1) (m+1) g 0) lp c b least most lz (f+1) (m+1) out x (some (onceA pc a g lp j c f m))) (SI X s sl M V)) :
    Yc (K+2) (.fn 25) [.obj s,iHed j least most lz (f+1) (m+1) out,stA pc a g lp] (SI X s sl M W) v (SI X s sl M V):=by
  have e:setZ (m-f) f g=clrA (f+1) (m+1) g 0:=set_clr hf g
  obtain⟨x',r⟩:=h_for (K:=K) (P:=SI X s sl M W) (s:=s) (pc:=pc) (a:=a) (g:=g) (lp:=lp) (j:=j) (c:=c) (b:=b) (least:=least) (first:=f+1) (last:=m+1) (out:=out) (most:=most) (lz:=lz) (Nat.le_of_lt hgl) (y:=none) (m-f) f g none rfl (by rw[Nat.add_sub_cancel' hf];exact hm)
  rw[e] at r
  refine hed_top hl hj (F':=FPH s j pc a g (clrA (f+1) (m+1) g 0) lp c b least most lz (f+1) (m+1) out x' (some (onceA pc a g lp j c f m))) (ZV (ho▸h_cond) (zG (F1:=FPH s j pc a g (clrA (f+1) (m+1) g 0) lp c b least most lz (f+1) (m+1) out x' none) (yx_for (fun n=>h_rng hf (Nat.lt_of_le_of_lt hm hgl)) r)
    (zG (F1:=FPH s j pc a g (clrA (f+1) (m+1) g 0) lp c b least most lz (f+1) (m+1) out x' (some (onceA pc a g lp j c f m))) (jK (ye_tup (zY (zW (by kernel_rfl)) (zY (zW rfl) (zY (zW rfl) (zY (ch_lp (List.getElem?_eq_some_iff.mp hj).1 hl (zW rfl) (zW (by kernel_rfl)) (zW (by kernel_rfl))) jF))))) (by show 17<18;decide)) (h x'))))
section
variable (hl:lp.length≤line)(hgl:g.length<line)(hj:lp[j]? = some (ZD c b))(ho:over most c=false)(hf:f≤m)(hm:m≤g.length)
include hl hgl hj ho hf hm
theorem adv_hedF (h:c<least):Adv X d (iHed j least most lz (f+1) (m+1) out) (stA pc a g lp) [] (onceA pc a g lp j c f m) 0 1 :=
  adv_rep (fun s=>by kernel_rfl) fun s sl M W hw=>nil_app (hed_in hl hgl hj ho hf hm fun x=>wX (jY (x := .int c) (y := .int least) (zW rfl) (zW rfl) (lt_t h)) (jJ (zW rfl)))
theorem adv_hedZ (h:least≤c):Adv X d (iHed j least most true (f+1) (m+1) out) (stA pc a g lp) [onceA pc a g lp j c f m] (stA out a g lp) 0 1 :=
  adv_rep (fun s=>by kernel_rfl) fun s sl M W hw=>hed_in hl hgl hj ho hf hm fun x=>ZV (jY (x := .int c) (y := .int least) (zW rfl) (zW rfl) (lt_f h)) (zG (s_push hw fun wl=>zW (by kernel_rfl)) (jJ (zW (by kernel_rfl))))
theorem adv_hedG (h:least≤c):Adv X d (iHed j least most false (f+1) (m+1) out) (stA pc a g lp) [stA out a g lp] (onceA pc a g lp j c f m) 0 1 :=
  adv_rep (fun s=>by kernel_rfl) fun s sl M W hw=>hed_in hl hgl hj ho hf hm fun x=>ZV (jY (x := .int c) (y := .int least) (zW rfl) (zW rfl) (lt_f h)) (zG (s_push hw fun wl=>zW (by kernel_rfl)) (jJ (zW (by kernel_rfl))))
end
noncomputable abbrev Rs:Type:=Nat×List AV
noncomputable def rV (r:Option Rs):AV:=@Option.rec Rs (fun q_=>AV) .none (fun q => .tup [.int q.1,.tup q.2]) r
noncomputable def lkV (o:Bool)(to a:Nat)(g lp:List AV)(r:Option Rs):AV:=@Bool.rec (fun q_=>AV) (@Option.rec Rs (fun q_=>AV) .none (fun q=>stA to a q.2 lp) r) (@Option.rec Rs (fun q_=>AV) (stA to a g lp) (fun q_ => .none) r) o
noncomputable abbrev FL (s:Nat)(i:AV)(pc a:Nat)(g lp:List AV)(f:Option AV):AF:=[some (.obj s),some i,some (stA pc a g lp),some (.int pc),some (.int a),some (.tup g),some (.tup lp),f]
theorem adv_look {o:Bool}{to n p:Nat}{r:Option Rs}(h:∀ s sl M W,W.length+p≤line→Yc (3 * d+6) (.fn 19) [.obj s,.int ((pc+1:Nat):Int),.int a,.tup g,.tup lp] (SI X s sl (M+n) W) (rV r) (SI X s sl M W)):Adv X (d+1) (.tup [.int 9,.bool o,.int to]) (stA pc a g lp) [] (lkV o to a g lp r) n p:=fun s sl M W hw=>by
  have q : Yc (3 * d+7) (.fn 24) [.obj s,.tup [.int 9,.bool o,.int to],stA pc a g lp] (SI X s sl (M+n) W) (lkV o to a g lp r) (SI X s sl M W) :=
    ZJ (f:=f_Search_look) (fl := .ret (lkV o to a g lp r)) (F':=FL s (.tup [.int 9,.bool o,.int to]) pc a g lp (some (rV r))) (F:=[some (.obj s),some (.tup [.int 9,.bool o,.int to]),some (stA pc a g lp),none,none,none,none,none]) rfl rfl (wU 1 (F1:=FL s (.tup [.int 9,.bool o,.int to]) pc a g lp none) (by kernel_rfl)
      (zG (F1:=FL s (.tup [.int 9,.bool o,.int to]) pc a g lp (some (rV r))) (jK (ye_own (j:=19) (zW rfl) (fun H h=>s_inst h) (fun q=>nomatch q) rfl (wW (by kernel_rfl)) (h s sl M W hw)) (by show 7<8;decide))
        (by cases o <;> cases r <;> exact fun n q_=>wD fun H=>by kernel_rfl)))
  refine nil_app ((adv_top (F':=FD s (.tup [.int 9,.bool o,.int to]) 9 pc a g lp none none) (wU 5 (F1:=FD s (.tup [.int 9,.bool o,.int to]) 9 pc a g lp none none) (by kernel_rfl) (wX (zW (by kernel_rfl)) (jJ (ye_own (j:=24) (zW rfl) (fun H h=>s_inst h) (fun q=>nomatch q) rfl (wW rfl) q))))).mono ?_)
  rw[Nat.mul_add];exact Nat.le_refl _
end
end
section
set_option backward.match.sparseCases false
open PySem
noncomputable abbrev FN (s:Nat)(p1 p2 p3 p4:AV)(b:Nat)(st:AV)(x:Option AV):AF:=[some (.obj s),some p1,some p2,some p3,some p4,some (.int b),some st,x]
noncomputable abbrev runT:XE:=zD OpC.isNot (zQ 6) jV
noncomputable abbrev runB:List XS:=[(s_augA (zQ 0) Fld.left Op2.sub (zX 1)),
    (wB (zD OpC.lt (jU (zQ 0) Fld.left) (zX 0)) [(s_raise (zK (zB 14) [(jA [82,97,110,103,101,69,114,114,111,114]),(jA [97,32,112,97,116,116,101,114,110,32,116,97,107,101,115,32,116,111,111,32,109,97,110,121,32,115,116,101,112,115])]))] []),
    (zU (zC 7 false) (zA (jU (zQ 0) Fld.steps) (zA (zQ 6) (zX 0)))),
    (wB (zD OpC.eq (zA (zQ 7) (zX 0)) (zB 31)) [(zU (t_attr (zQ 0) Fld.waiting) (n_slm (jU (zQ 0) Fld.waiting) none (some (zQ 5)))),
    (jX (jC [(zA (zQ 6) (zX 1)),(zA (zQ 6) (zX 2))]))] []),
    (zU (zC 6 false) (ZK (zQ 0) 7 [(zQ 7),(zQ 6)])),
    (wB (ZH [(zD OpC.is (zQ 6) jV),(zD OpC.gt (zK (zB 39) [(jU (zQ 0) Fld.waiting)]) (zQ 5))]) [(zU (zC 6 false) (n_meth (jU (zQ 0) Fld.waiting) Me.pop []))] [])]
noncomputable abbrev rT (N:Nat):AF→AM Bool:=fun F=>zZ (runT.ev GlT (ac N) F) fun v=>jW (wH v)
noncomputable abbrev rB (N:Nat):AF→AM (Flo×AF):=fun F=>exs GlT (ac N) jG runB F
noncomputable def flo (R:Option Rs):Flo:=@Option.rec Rs (fun q_=>Flo) .next (fun q => .ret (.tup [.int q.1,.tup q.2])) R
noncomputable def Loop (X:Cx)(d:Nat)(st:AV)(W:List AV)(R:Option Rs)(n p:Nat):Prop:=∀ N s sl M B p1 p2 p3 p4 x fuel,3 * d+5≤N→n<fuel→(B++W).length+p≤line →
  ∃ F',Yl (awhile (rT N) (rB N) fuel (FN s p1 p2 p3 p4 B.length st x)) (SI X s sl (M+n) (B++W)) (flo R,F') (SI X s sl M B)
section
variable {X:Cx}{d:Nat}(hX:X.SL.length≤line){s sl M K pc a:Nat}{p1 p2 p3 p4:AV}{x:Option AV}{B W W':List AV}{g lp:List AV}{i v w:AV}{fl:Flo}{F':AF}{Q:HP}
include hX in
theorem t_top {b:Nat}(hi:X.SL[pc]? = some i)(h:Ys K (FN s p1 p2 p3 p4 b (stA pc a g lp) (some i)) (runB.drop 3) (SI X s sl M W) fl F' Q):Ys K (FN s p1 p2 p3 p4 b (stA pc a g lp) x) runB (SI X s sl (M+1) W) fl F' Q :=
  zG s_dec (ZV (jY (y := .int (0:Nat)) s_left (zW rfl) (lt_f (Nat.zero_le M))) (zG (F1:=FN s p1 p2 p3 p4 b (stA pc a g lp) (some i)) (jK (s_step hX hi (zW (by kernel_rfl))) (by show 7<8;decide)) h))
include hX in
theorem t_met (hi:X.SL[pc]? = some (.tup [.int 15]))(hl:(B++W).length≤line):Ys K (FN s p1 p2 p3 p4 B.length (stA pc a g lp) x) runB (SI X s sl (M+1) (B++W)) (.ret (.tup [.int a,.tup g])) (FN s p1 p2 p3 p4 B.length (stA pc a g lp) (some (.tup [.int 15]))) (SI X s sl M B) :=
  t_top hX hi (wX (zW (by kernel_rfl)) (zG (s_cut hl rfl) (jJ (zW (by kernel_rfl)))))
structure NM (i:AV):Prop where
  nm:∃ k r,i = .tup (.int k::r)∧JW .eq (.int k) (.int 15)=some false
include hX in
theorem t_adv {b n0 p0:Nat}(hi:X.SL[pc]? = some i)(hk:NM i)(A:Adv X d i (stA pc a g lp) W' v n0 p0)(hw:W.length+p0≤line)(h:Ys (3 * d+5) (FN s p1 p2 p3 p4 b v (some i)) (runB.drop 5) (SI X s sl M (W++W')) fl F' Q):Ys (3 * d+5) (FN s p1 p2 p3 p4 b (stA pc a g lp) x) runB (SI X s sl (M+n0+1) W) fl F' Q:=by
  obtain⟨k,r,rfl,e⟩:=hk
  exact t_top hX hi (ZV (jY (x := .int k) (y := .int 15) (zW (by kernel_rfl)) (zW rfl) e) (zG (F1:=FN s p1 p2 p3 p4 b v (some (.tup (.int k::r)))) (jK (ye_own (j:=20) (zW rfl) (fun H h=>s_inst h) (fun q=>nomatch q) rfl (wW rfl) (A s sl M W hw)) (by show 6<8;decide)) h))
theorem w_test {N:Nat}{F:AF}{P:HP}{ys:List AV}(hF:nth F 6=some (.tup ys)):Yl (rT N F) P true P :=
  zV (f:=fun v=>jW (wH v)) (jY (K:=0) (o:=OpC.isNot) (a:=zQ 6) (b:=jV) (x := .tup ys) (y := .none) (t:=true) (fun n q_=>y_opt hF) (zW rfl) rfl N (Nat.zero_le N)) (wD fun H=>rfl)
theorem w_turn {N fuel:Nat}{F F1 F':AF}{P Q R:HP}{ys:List AV}{fl:Flo}(hF:nth F 6=some (.tup ys))(h:Yl (exs GlT (ac N) jG runB F) P (.next,F1) Q)(k:Yl (awhile (rT N) (rB N) fuel F1) Q (fl,F') R):Yl (awhile (rT N) (rB N) (fuel+1) F) P (fl,F') R :=
  zV (f:=fun b=>cond b (zZ (rB N F) fun p=>ZU (awhile (rT N) (rB N) fuel) p) (zH (.next,F))) (w_test hF) (zV (f:=fun p=>ZU (awhile (rT N) (rB N) fuel) p) h k)
theorem w_stop {N fuel:Nat}{F F':AF}{P Q:HP}{ys:List AV}{v:AV}(hF:nth F 6=some (.tup ys))(h:Yl (exs GlT (ac N) jG runB F) P (.ret v,F') Q):Yl (awhile (rT N) (rB N) (fuel+1) F) P (.ret v,F') Q :=
  zV (f:=fun b=>cond b (zZ (rB N F) fun p=>ZU (awhile (rT N) (rB N) fuel) p) (zH (.next,F))) (w_test hF) (zV (f:=fun p=>ZU (awhile (rT N) (rB N) fuel) p) h wQ)
theorem w_fin {N fuel:Nat}{F:AF}{P:HP}(hF:nth F 6=some .none):Yl (awhile (rT N) (rB N) (fuel+1) F) P (.next,F) P :=
  zV (f:=fun b=>cond b (zZ (rB N F) fun p=>ZU (awhile (rT N) (rB N) fuel) p) (zH (.next,F))) (v:=false) (zV (f:=fun v=>jW (wH v)) (jY (K:=0) (o:=OpC.isNot) (a:=zQ 6) (b:=jV) (x := .none) (y := .none) (t:=false) (fun n q_=>y_opt hF) (zW rfl) rfl N (Nat.zero_le N)) (wD fun H=>rfl)) wQ
include hX
theorem loop_met (hi:X.SL[pc]? = some (.tup [.int 15])):Loop X d (stA pc a g lp) W (some (a,g)) 1 0:=fun N s sl M B p1 p2 p3 p4 x fuel hN hf hw=>by
  obtain⟨f,_,rfl⟩:=wC (Nat.le_of_lt hf)
  exact⟨_,w_stop rfl (t_met (K:=N) hX hi hw N (Nat.le_refl N))⟩
theorem loop_go {ys:List AV}{R:Option Rs}{n p n0 p0 P:Nat}(hi:X.SL[pc]? = some i)(hk:NM i)(A:Adv X d i (stA pc a g lp) W' (.tup ys) n0 p0)(h:Loop X d (.tup ys) (W++W') R n p)(h0:p0≤P)(hp:p+W'.length≤P):Loop X d (stA pc a g lp) W R (n+n0+1) P:=fun N s sl M B p1 p2 p3 p4 x fuel hN hf hw=>by
  obtain⟨f,hf',rfl⟩:=wC (Nat.succ_le_of_lt (Nat.lt_of_le_of_lt (Nat.zero_le _) hf))
  obtain⟨F',e⟩:=h N s sl M B p1 p2 p3 p4 (some i) f hN (Nat.lt_of_le_of_lt (Nat.le_add_right n n0) (Nat.lt_of_succ_lt_succ hf)) (by rw[←List.append_assoc,List.length_append,Nat.add_assoc,Nat.add_comm W'.length];exact Nat.le_trans (Nat.add_le_add_left hp _) hw)
  rw[←List.append_assoc] at e
  rw[show M+(n+n0+1)=M+n+n0+1 from by rw[←Nat.add_assoc,←Nat.add_assoc]]
  refine⟨F',w_turn rfl (t_adv hX (M:=M+n) hi hk A (Nat.le_trans (Nat.add_le_add_left h0 _) hw) (ZV (ye_andf (zW (by kernel_rfl))) ZY) N hN) e⟩
theorem t_none {n0 p0:Nat}(hi:X.SL[pc]? = some i)(hk:NM i)(A:Adv X d i (stA pc a g lp) [] .none n0 p0)(hw:W.length+p0≤line){b:Nat}(h:Ys (3 * d+5) (FN s p1 p2 p3 p4 b .none (some i)) (runB.drop 5) (SI X s sl M W) fl F' Q):Ys (3 * d+5) (FN s p1 p2 p3 p4 b (stA pc a g lp) x) runB (SI X s sl (M+n0+1) W) fl F' Q :=
  t_adv hX hi hk A hw (by rw[List.append_nil];exact h)
theorem loop_fail {n0 p0:Nat}(hi:X.SL[pc]? = some i)(hk:NM i)(A:Adv X d i (stA pc a g lp) [] .none n0 p0):Loop X d (stA pc a g lp) [] none (n0+1) p0:=fun N s sl M B p1 p2 p3 p4 x fuel hN hf hw=>by
  obtain⟨f,hf',rfl⟩:=wC (Nat.succ_le_of_lt (Nat.lt_of_le_of_lt (Nat.zero_le _) hf))
  obtain⟨f,_,rfl⟩:=wC (show 1≤f from Nat.lt_of_le_of_lt (Nat.zero_le n0) (Nat.lt_of_succ_lt_succ hf))
  rw[List.append_nil] at hw ⊢
  exact⟨_,w_turn rfl (t_none hX hi hk A hw (ZV (JQ (zW (by kernel_rfl)) (ye_and1 (jY (x := .int B.length) (y := .int B.length) (s_len (Nat.le_trans (Nat.le_add_right _ _) hw)) (zW rfl) (gt_f (Nat.le_refl _))))) ZY) N hN) (w_fin rfl)⟩
theorem loop_pop {R:Option Rs}{n p n0 p0 P:Nat}(hi:X.SL[pc]? = some i)(hk:NM i)(A:Adv X d i (stA pc a g lp) [] .none n0 p0)(h:Loop X d w W R n p)(h0:p0≤P)(hp:p≤P+1):Loop X d (stA pc a g lp) (W++[w]) R (n+n0+1) P:=fun N s sl M B p1 p2 p3 p4 x fuel hN hf hw=>by
  obtain⟨f,hf',rfl⟩:=wC (Nat.succ_le_of_lt (Nat.lt_of_le_of_lt (Nat.zero_le _) hf))
  have hz:(B++(W++[w])).length=(B++W).length+1:=by rw[←List.append_assoc,List.length_append];rfl
  rw[hz] at hw
  obtain⟨F',e⟩:=h N s sl M B p1 p2 p3 p4 (some i) f hN (Nat.lt_of_le_of_lt (Nat.le_add_right n n0) (Nat.lt_of_succ_lt_succ hf)) (Nat.le_trans (Nat.add_le_add_left hp _) (by rw[Nat.add_comm P 1,←Nat.add_assoc];exact hw))
  rw[show M+(n+n0+1)=M+n+n0+1 from by rw[←Nat.add_assoc,←Nat.add_assoc]]
  refine⟨F',w_turn (F1:=FN s p1 p2 p3 p4 B.length w (some i)) (Q:=SI X s sl (M+n) (B++W)) rfl (t_none hX (M:=M+n) hi hk A (by rw[hz];exact Nat.le_trans (Nat.add_le_add_left h0 _) hw) (ys_ifn (JQ (zW (by kernel_rfl)) (ye_and1 (jY (x := .int (B++(W++[w])).length) (y := .int B.length) (s_len (by rw[hz];exact Nat.le_trans (Nat.le_add_right _ _) hw)) (zW rfl) (gt_t (by rw[hz,List.length_append];exact Nat.lt_succ_of_le (Nat.le_add_right _ _)))))) (zG (F1:=FN s p1 p2 p3 p4 B.length w (some i)) (jK (by rw[←List.append_assoc];exact s_pop (Nat.lt_of_lt_of_le (Nat.lt_succ_self _) (Nat.le_trans (Nat.le_add_right _ P) hw))) (by show 6<8;decide)) ZY) ZY) N hN) e⟩
end
end
section
set_option backward.match.sparseCases false
open PySem
noncomputable def Nxt (X:Cx)(d:Nat)(r:Option Rs)(W:List AV)(R:Option Rs)(m pw:Nat):Prop:=(∃ q,r=some q∧R=some q∧m=0)∨(r=none∧((W=[]∧R=none∧m=0)∨∃ W1 w,W=W1++[w]∧Loop X d w W1 R m pw))
noncomputable def Lp (X:Cx)(d:Nat)(st:AV)(r:Option Rs)(n p:Nat):Prop:=∀ W R m pw P,Nxt X d r W R m pw→p≤P→pw≤P+1→Loop X d st W R (m+n) P
section
variable {X:Cx}{d:Nat}(hX:X.SL.length≤line){pc a:Nat}{g lp:List AV}{i w:AV}{r r1 r2:Option Rs}{n n0 n1 n2 p p0 p1 p2:Nat}{ys:List AV}
theorem Loop.more {st:AV}{W:List AV}{R:Option Rs}{P:Nat}(h:Loop X d st W R n p)(hp:p≤P):Loop X d st W R n P:=fun N s sl M B p1 p2 p3 p4 x fuel hN hf hw=>h N s sl M B p1 p2 p3 p4 x fuel hN hf (Nat.le_trans (Nat.add_le_add_left hp _) hw)
theorem Lp.more {st:AV}{P:Nat}(h:Lp X d st r n p)(hp:p≤P):Lp X d st r n P:=fun W R m pw Q x h1 h2=>h W R m pw Q x (Nat.le_trans hp h1) h2
include hX
theorem lp_met (hi:X.SL[pc]? = some (.tup [.int 15])):Lp X d (stA pc a g lp) (some (a,g)) 1 0:=fun W R m pw P x q_ q_=>by
  rcases x with⟨q,e,rfl,rfl⟩ | ⟨e,_⟩
  · cases e
    exact(loop_met hX hi).more (Nat.zero_le P)
  · cases e
theorem lp_go (hi:X.SL[pc]? = some i)(hk:NM i)(A:Adv X d i (stA pc a g lp) [] (.tup ys) n0 p0)(h:Lp X d (.tup ys) r n p)(h0:p0≤p):Lp X d (stA pc a g lp) r (n+n0+1) p:=fun W R m pw P x h1 h2=>by
  have:=loop_go (P:=P) (p:=P) (W':=[]) hX hi hk A (by rw[List.append_nil];exact h W R m pw P x h1 h2) (Nat.le_trans h0 h1) (Nat.le_refl P)
  rw[show m+(n+n0+1)=m+n+n0+1 from by rw[←Nat.add_assoc,←Nat.add_assoc]]
  exact this
theorem lp_fail (hi:X.SL[pc]? = some i)(hk:NM i)(A:Adv X d i (stA pc a g lp) [] .none n0 p0):Lp X d (stA pc a g lp) none (n0+1) p0:=fun W R m pw P x h1 h2=>by
  rcases x with⟨q,e,_⟩ | ⟨_,⟨rfl,rfl,rfl⟩ | ⟨W1,w,rfl,y⟩⟩
  · cases e
  · rw[Nat.zero_add];exact(loop_fail hX hi hk A).more h1
  · exact loop_pop hX hi hk A y h1 h2
theorem lp_two {P0:Nat}(hi:X.SL[pc]? = some i)(hk:NM i)(A:Adv X d i (stA pc a g lp) [w] (.tup ys) 0 1)(h1:Lp X d (.tup ys) r1 n1 p1)(h2:Lp X d w r2 n2 p2)(q1:p1+1≤P0)(q2:p2≤P0):∃ n,n≤n1+n2+1∧Lp X d (stA pc a g lp) (r1.or r2) n P0:=by
  have go:∀ {W R m pw P},P0≤P+1→Nxt X d r1 (W++[w]) R m pw→pw≤P+1→Loop X d (stA pc a g lp) W R (m+n1+0+1) (P+1):=fun {W R m pw P} hP x hw =>
    loop_go (P:=P+1) (p:=P) (W':=[w]) (n:=m+n1) (n0:=0) (p0:=1) (ys:=ys) hX hi hk A (h1 (W++[w]) R m pw P x (Nat.le_of_succ_le_succ (Nat.le_trans q1 hP)) hw) (Nat.succ_le_succ (Nat.zero_le P)) (Nat.le_refl _)
  cases r1 with
  | some q =>
    refine⟨n1+1,Nat.succ_le_succ (Nat.le_add_right n1 n2),fun W R m pw P x k1 k2=>?_⟩
    obtain⟨P,_,rfl⟩:=wC (Nat.le_trans (Nat.le_trans (Nat.le_add_left 1 p1) q1) k1)
    have e:Nxt X d (some q) (W++[w]) R m 0:=by
      rcases x with x | ⟨e,_⟩
      · exact .inl x
      · cases e
    exact go k1 e (Nat.zero_le _)
  | none =>
    refine⟨n1+n2+1,Nat.le_refl _,fun W R m pw P x k1 k2=>?_⟩
    have y:=h2 W R m pw P x (Nat.le_trans q2 k1) k2
    obtain⟨P,_,rfl⟩:=wC (Nat.le_trans (Nat.le_trans (Nat.le_add_left 1 p1) q1) k1)
    have:=go k1 (.inr ⟨rfl,.inr ⟨W,w,rfl,y⟩⟩) (Nat.le_refl _)
    rw[show m+(n1+n2+1)=m+n2+n1+0+1 from congrArg (· + 1) (by rw[Nat.add_comm n1 n2,Nat.add_assoc m n2 n1];rfl)]
    exact this
omit hX in
theorem while_ex {G:Glo}{call:Orc}{V:Nat}{F:AF}{c:XE}{b:List XS}:(s_while c b).ex G call V F=awhile (fun F=>zZ (c.ev G call F) fun v=>jW (wH v)) (fun F=>exs G call V b F) V F:=rfl
omit hX in
theorem c_run {s sl M:Nat}{W:List AV}(h:Lp X d (stA pc a g lp) r n p)(hn:n<jG)(hw:W.length+p≤line):Yc (3 * d+6) (.fn 19) [.obj s,.int pc,.int a,.tup g,.tup lp] (SI X s sl (M+n) W) (rV r) (SI X s sl M W):=fun m hm=>by
  obtain⟨N,hN,rfl⟩:=wC hm
  have x:Nxt X d r [] r 0 0:=by
    cases r with
    | some q=>exact .inl ⟨q,rfl,rfl,rfl⟩
    | none=>exact .inr ⟨rfl,.inl ⟨rfl,rfl,rfl⟩⟩
  obtain⟨F',e⟩:=h [] r 0 0 p x (Nat.le_refl p) (Nat.zero_le _) N s sl M W (.int pc) (.int a) (.tup g) (.tup lp) none jG hN (by rw[Nat.zero_add];exact hn) (by rw[List.append_nil];exact hw)
  rw[Nat.zero_add,List.append_nil] at e
  have l:Yl (exs GlT (ac N) jG (f_Search_run.body.drop 2) (FN s (.int pc) (.int a) (.tup g) (.tup lp) W.length (stA pc a g lp) none)) (SI X s sl (M+n) W) (.ret (rV r),F') (SI X s sl M W):=by
    refine zV (m:=(s_while runT runB).ex GlT (ac N) jG (FN s (.int pc) (.int a) (.tup g) (.tup lp) W.length (stA pc a g lp) none)) (f:=fun p=>ZU (exs GlT (ac N) jG [jX jV]) p) (by rw[while_ex];exact e) ?_
    cases r with
    | some q=>exact wQ
    | none=>exact jJ (K:=0) (r:=[]) (F:=F') (e:=jV) (zW rfl) N (Nat.zero_le N)
  have a5:Yx 0 [some (.obj s),some (.int pc),some (.int a),some (.tup g),some (.tup lp),none,none,none] (zU (zC 5 false) (zK (zB 39) [(jU (zQ 0) Fld.waiting)])) (SI X s sl (M+n) W) [some (.obj s),some (.int pc),some (.int a),some (.tup g),some (.tup lp),some (.int W.length),none,none] (SI X s sl (M+n) W) :=
    jK (s_len (Nat.le_trans (Nat.le_add_right _ _) hw)) (by show 5<8;decide)
  have a6:Yx 0 [some (.obj s),some (.int pc),some (.int a),some (.tup g),some (.tup lp),some (.int W.length),none,none] (zU (zC 6 false) (jC [(zQ 1),(zQ 2),(zQ 3),(zQ 4)])) (SI X s sl (M+n) W) (FN s (.int pc) (.int a) (.tup g) (.tup lp) W.length (stA pc a g lp) none) (SI X s sl (M+n) W) :=
    jK (zW rfl) (by show 6<8;decide)
  have b5:=zV (f:=fun p=>ZU (exs GlT (ac N) jG (f_Search_run.body.drop 2)) p) (a6 N (Nat.zero_le N)) (show Yl (ZU (exs GlT (ac N) jG (f_Search_run.body.drop 2)) (Flo.next,FN s (.int pc) (.int a) (.tup g) (.tup lp) W.length (stA pc a g lp) none)) (SI X s sl (M+n) W) (.ret (rV r),F') (SI X s sl M W) from l)
  have b6:=zV (f:=fun p=>ZU (exs GlT (ac N) jG (f_Search_run.body.drop 1)) p) (a5 N (Nat.zero_le N)) b5
  exact zV (f:=fun ir=>arun GlT jG (ac N) ir [.obj s,.int pc,.int a,.tup g,.tup lp]) (y_opt (v:=f_Search_run) rfl) (zV (f:=fun F=>zZ (exs GlT (ac N) jG f_Search_run.body F) fun p=>zH p.1.val) (v:=[some (.obj s),some (.int pc),some (.int a),some (.tup g),some (.tup lp),none,none,none]) (y_opt rfl)
    (zV (f:=fun p:Flo×AF=>zH p.1.val) (v:=(Flo.ret (rV r),F')) b6 wQ))
end
end
section
set_option backward.match.sparseCases false
noncomputable def sm (f:Nat→Nat)(n:Nat):Nat:=@Nat.rec (fun q_=>Nat) (f 0) (fun n ih=>ih+f (n+1)) n
theorem le_sm (f:Nat→Nat):∀ (n j:Nat),j≤n→f j≤sm f n
  | 0,j,h=>by cases Nat.le_zero.mp h;exact Nat.le_refl _
  | n+1,j,h=>by
    rcases Nat.lt_or_ge j (n+1) with q | q
    · exact Nat.le_trans (le_sm f n j (Nat.le_of_lt_succ q)) (Nat.le_add_right _ _)
    · rw[Nat.le_antisymm h q];exact Nat.le_add_left _ _
theorem sm_congr {f g:Nat→Nat}:∀ {n:Nat},(∀ j,j≤n→f j=g j)→sm f n=sm g n
  | 0,h=>h 0 (Nat.le_refl 0)
  | n+1,h=>by
    show sm f n+f (n+1)=sm g n+g (n+1)
    rw[sm_congr fun j hj=>h j (Nat.le_succ_of_le hj),h (n+1) (Nat.le_refl _)]
theorem sm_le {f g:Nat→Nat}:∀ {n:Nat},(∀ j,j≤n→f j≤g j)→sm f n≤sm g n
  | 0,h=>h 0 (Nat.le_refl 0)
  | n+1,h=>Nat.add_le_add (sm_le fun j hj=>h j (Nat.le_succ_of_le hj)) (h (n+1) (Nat.le_refl _))
theorem sm_add {f g:Nat→Nat}:∀ {n:Nat},sm (fun j=>f j+g j) n=sm f n+sm g n
  | 0=>rfl
  | n+1=>by
    show sm (fun j=>f j+g j) n+(f (n+1)+g (n+1))=(sm f n+f (n+1))+(sm g n+g (n+1))
    rw[sm_add,Nat.add_add_add_comm]
theorem sm_mulL {a:Nat}{f:Nat→Nat}:∀ {n:Nat},sm (fun j=>a * f j) n=a * sm f n
  | 0=>rfl
  | n+1=>by
    show sm (fun j=>a * f j) n+a * f (n+1)=a * (sm f n+f (n+1))
    rw[sm_mulL,Nat.mul_add]
theorem sm_mulR {a:Nat}{f:Nat→Nat}:∀ {n:Nat},sm (fun j=>f j * a) n=sm f n * a
  | 0=>rfl
  | n+1=>by
    show sm (fun j=>f j * a) n+f (n+1) * a=(sm f n+f (n+1)) * a
    rw[sm_mulR,Nat.add_mul]
theorem sm_tri (F:Nat→Nat→Nat):∀ r:Nat,sm (fun j=>sm (fun i=>F j i) (r-j)) r=sm (fun t=>sm (fun j=>F j (t-j)) t) r
  | 0=>rfl
  | r + 1=>by
    show sm (fun j=>sm (fun i=>F j i) (r+1-j)) r+sm (fun i=>F (r+1) i) (r+1-(r+1))=sm (fun t=>sm (fun j=>F j (t-j)) t) r+(sm (fun j=>F j (r+1-j)) r+F (r+1) (r+1-(r+1)))
    have e:sm (fun j=>sm (fun i=>F j i) (r+1-j)) r=sm (fun j=>sm (fun i=>F j i) (r-j)+F j (r+1-j)) r:=sm_congr fun j hj=>by
      rw[Nat.succ_sub hj];rfl
    rw[e,sm_add,sm_tri F r,Nat.sub_self,Nat.add_assoc];rfl
structure Prof where
  w:Nat→Nat
  s:Nat→Nat
noncomputable def val (P:Prof)(ck:Nat→Nat)(r:Nat):Nat:=P.s r+sm (fun j=>P.w j * ck (r-j)) r
noncomputable def d0 (j:Nat):Nat:=@Nat.rec (fun q_=>Nat) 1 (fun q_ q_=>0) j
theorem sm_d0 (ck:Nat→Nat)(r:Nat):sm (fun j=>d0 j * ck (r-j)) r=ck r:=by
  have:∀ n,sm (fun j=>d0 j * ck (r-j)) n=ck r:=fun n=>by
    induction n with
    | zero=>exact Nat.one_mul _
    | succ n ih=>show sm (fun j=>d0 j * ck (r-j)) n+0 * ck (r-(n+1))=ck r;rw[ih,Nat.zero_mul];rfl
  exact this r
noncomputable def pone:Prof:=⟨d0,fun q_=>1⟩
noncomputable def pchar:Prof:=⟨fun j=>@Nat.rec (fun q_=>Nat) 0 (fun i q_=>d0 i) j,fun q_=>1⟩
noncomputable def pback:Prof:=⟨fun q_=>1,fun q_=>1⟩
noncomputable def pcomp (P Q:Prof):Prof:=⟨fun t=>sm (fun j=>P.w j * Q.w (t-j)) t,fun r=>P.s r+sm (fun j=>P.w j * Q.s (r-j)) r⟩
noncomputable def pgrp (P:Prof):Prof:=⟨P.w,fun r=>1+(P.s r+sm P.w r)⟩
noncomputable def palt (P Q:Prof):Prof:=⟨fun j=>P.w j+Q.w j,fun r=>1+(P.s r+sm P.w r+Q.s r)⟩
noncomputable def plook (P:Prof):Prof:=⟨d0,fun r=>1+(P.s r+sm P.w r)⟩
theorem v_one {C:Nat→Nat}{r:Nat}:C r+1≤val pone C r:=by
  show C r+1≤1+sm (fun j=>d0 j * C (r-j)) r
  rw[sm_d0,Nat.add_comm];exact Nat.le_refl _
theorem v_char {C:Nat→Nat}{r:Nat}:C r+1≤val pchar C (r+1):=by
  have:=le_sm (fun j=>pchar.w j * C (r+1-j)) (r+1) 1 (Nat.succ_le_succ (Nat.zero_le r))
  have e:pchar.w 1 * C (r+1-1)=C r:=Nat.one_mul _
  rw[e] at this
  exact Nat.le_trans (Nat.le_of_eq (Nat.add_comm _ _)) (Nat.add_le_add_left this 1)
theorem v_back {C:Nat→Nat}{r j:Nat}(h:j≤r):C (r-j)+1≤val pback C r:=by
  have:=le_sm (fun j=>pback.w j * C (r-j)) r j h
  have e:pback.w j * C (r-j)=C (r-j):=Nat.one_mul _
  rw[e] at this
  exact Nat.le_trans (Nat.le_of_eq (Nat.add_comm _ _)) (Nat.add_le_add_left this 1)
theorem val_one {P:Prof}{ck:Nat→Nat}{r:Nat}:val P (fun q=>ck q+1) r=sm P.w r+val P ck r:=by
  unfold val
  rw[sm_congr (f:=fun j=>P.w j * (ck (r-j)+1)) (g:=fun j=>P.w j+P.w j * ck (r-j)) fun j q_=>by rw[Nat.mul_add,Nat.mul_one,Nat.add_comm],sm_add,Nat.add_left_comm]
theorem val_c1 {P:Prof}{r:Nat}:val P (fun q_=>1) r=P.s r+sm P.w r:=by
  unfold val
  rw[sm_congr (f:=fun j=>P.w j * 1) (g:=P.w) fun j q_=>Nat.mul_one _]
theorem ac2 (c t:Nat):c+t+1≤1+t+c:=Nat.le_of_eq (by rw[Nat.add_comm 1 t,Nat.add_right_comm t 1 c,Nat.add_comm t c])
theorem ac3 (w s x:Nat):w+(s+x)+1≤1+(s+w)+x:=Nat.le_of_eq (by rw[Nat.add_comm 1 (s+w),Nat.add_right_comm (s+w) 1 x,Nat.add_comm s w,Nat.add_assoc w s x])
theorem ac5 (w s x t y:Nat):w+(s+x)+(t+y)+1≤1+(s+w+t)+(x+y):=Nat.le_of_eq (by rw[Nat.add_comm 1 (s+w+t),Nat.add_right_comm (s+w+t) 1 (x+y),Nat.add_comm s w,←Nat.add_assoc w s x,Nat.add_add_add_comm (w+s) x t y])
theorem ac6 (d b m n:Nat):d+(b+(m+n))+1≤1+(b+m)+(d+n):=Nat.le_of_eq (by rw[Nat.add_comm 1 (b+m),Nat.add_right_comm (b+m) 1 (d+n),←Nat.add_assoc b m n,Nat.add_left_comm d (b+m) n])
theorem v_grp {P:Prof}{C:Nat→Nat}{r:Nat}:val P (fun q=>C q+1) r+1≤val (pgrp P) C r:=by
  rw[val_one]
  show sm P.w r+(P.s r+sm (fun j=>P.w j * C (r-j)) r)+1≤1+(P.s r+sm P.w r)+sm (fun j=>P.w j * C (r-j)) r
  exact ac3 _ _ _
theorem v_alt {P Q:Prof}{C:Nat→Nat}{r:Nat}:val P (fun q=>C q+1) r+val Q C r+1≤val (palt P Q) C r:=by
  rw[val_one]
  show sm P.w r+(P.s r+sm (fun j=>P.w j * C (r-j)) r)+(Q.s r+sm (fun j=>Q.w j * C (r-j)) r)+1≤1+(P.s r+sm P.w r+Q.s r)+sm (fun j=>(P.w j+Q.w j) * C (r-j)) r
  rw[sm_congr (f:=fun j=>(P.w j+Q.w j) * C (r-j)) (g:=fun j=>P.w j * C (r-j)+Q.w j * C (r-j)) fun j q_=>Nat.add_mul _ _ _,sm_add]
  exact ac5 _ _ _ _ _
theorem v_look {P:Prof}{C:Nat→Nat}{r:Nat}:C r+val P (fun q_=>1) r+1≤val (plook P) C r:=by
  rw[val_c1]
  show C r+(P.s r+sm P.w r)+1≤1+(P.s r+sm P.w r)+sm (fun j=>d0 j * C (r-j)) r
  rw[sm_d0]
  exact ac2 _ _
theorem two_rows {w:Nat→Nat}{R:Nat→Nat→Nat}{T:Nat→Nat}{C:Nat→Nat}{r:Nat}:sm (fun j=>w j * (T j+sm (fun i=>R j i * C (r-j-i)) (r-j))) r=sm (fun j=>w j * T j) r+sm (fun t=>sm (fun j=>w j * R j (t-j)) t * C (r-t)) r:=by
  rw [sm_congr (g:=fun j=>w j * T j+sm (fun i=>w j * (R j i * C (r-j-i))) (r-j)) fun j q_=>by rw[Nat.mul_add,sm_mulL],sm_add,sm_tri (fun j i=>w j * (R j i * C (r-j-i))) r,
    sm_congr (f:=fun t=>sm (fun j=>w j * (R j (t-j) * C (r-j-(t-j)))) t) (g:=fun t=>sm (fun j=>w j * R j (t-j)) t * C (r-t)) fun t ht=>by
      rw[←sm_mulR]
      exact sm_congr fun j hj=>by rw[Nat.sub_sub,Nat.add_sub_cancel' hj,Nat.mul_assoc]]
theorem v_comp {P Q:Prof}{C:Nat→Nat}{r:Nat}:val P (val Q C) r≤val (pcomp P Q) C r:=by
  show P.s r+sm (fun j=>P.w j * (Q.s (r-j)+sm (fun i=>Q.w i * C (r-j-i)) (r-j))) r≤(P.s r+sm (fun j=>P.w j * Q.s (r-j)) r)+sm (fun t=>sm (fun j=>P.w j * Q.w (t-j)) t * C (r-t)) r
  rw[two_rows (w:=P.w) (R:=fun q_ i=>Q.w i) (T:=fun j=>Q.s (r-j)),Nat.add_assoc]
  exact Nat.le_refl _
noncomputable abbrev Row:Type:=(Nat→Nat)×Nat
noncomputable def zr:Row:=(fun q_=>0,0)
noncomputable def hp (least:Nat)(most:Option Nat)(b:Prof)(f:Nat):Nat→Nat→Row:=@Nat.rec (fun q_=>Nat→Nat→Row) (fun q_ q_=>zr) (fun q_ ih c r=>if over most c=true then(d0,1) else
    (fun t=>(if c<least then 0 else d0 t)+sm (fun j=>b.w j * (if least≤c∧j=0 then zr else ih (c+1) (r-j)).1 (t-j)) t,
      1+(b.s r+sm (fun j=>b.w j * (1+(if least≤c∧j=0 then zr else ih (c+1) (r-j)).2)) r))) f
noncomputable def hv (R:Row)(ck:Nat→Nat)(r:Nat):Nat:=R.2+sm (fun j=>R.1 j * ck (r-j)) r
section
variable {least:Nat}{most:Option Nat}{b:Prof}{C:Nat→Nat}{f c r:Nat}
theorem hp_over (h:over most c=true):C r+1≤hv (hp least most b (f+1) c r) C r:=by
  show C r+1≤hv (if over most c=true then(d0,1) else _) C r
  rw[if_pos h]
  exact v_one
noncomputable def bc (least:Nat)(most:Option Nat)(b:Prof)(C:Nat→Nat)(f c r q:Nat):Nat:=if least≤c∧q=r then 1 else hv (hp least most b f (c+1) q) C q+1
theorem hp_in (h:over most c=false):(if c<least then 0 else C r)+val b (bc least most b C f c r) r+1≤hv (hp least most b (f+1) c r) C r:=by
  let ch:Nat→Row:=fun j=>if least≤c∧j=0 then zr else hp least most b f (c+1) (r-j)
  have h2:∀ j,j≤r→bc least most b C f c r (r-j)≤(1+(ch j).2)+sm (fun i=>(ch j).1 i * C (r-j-i)) (r-j):=fun j hj=>by
    by_cases q:least≤c∧j=0
    · have e:bc least most b C f c r (r-j)=1:=if_pos ⟨q.1,by rw[q.2];rfl⟩
      rw[e]
      exact Nat.le_trans (Nat.le_add_right 1 _) (Nat.le_add_right _ _)
    · have e:bc least most b C f c r (r-j)=hv (hp least most b f (c+1) (r-j)) C (r-j)+1:=if_neg fun k=>q ⟨k.1,Nat.add_left_cancel (n:=r) ((Nat.sub_eq_iff_eq_add hj).mp k.2).symm⟩
      rw[e,show ch j=hp least most b f (c+1) (r-j) from if_neg q,Nat.add_comm,Nat.add_assoc]
      exact Nat.le_refl _
  have h3:val b (bc least most b C f c r) r≤b.s r+sm (fun j=>b.w j * (1+(ch j).2+sm (fun i=>(ch j).1 i * C (r-j-i)) (r-j))) r:=Nat.add_le_add_left (sm_le fun j hj=>Nat.mul_le_mul_left _ (h2 j hj)) _
  rw[two_rows (R:=fun j i=>(ch j).1 i) (T:=fun j=>1+(ch j).2)] at h3
  have h4:(if c<least then 0 else C r)≤sm (fun t=>(if c<least then 0 else d0 t) * C (r-t)) r:=by
    by_cases hc:c<least
    · rw[if_pos hc];exact Nat.zero_le _
    · rw[if_neg hc];simp only[if_neg hc];rw[sm_d0];exact Nat.le_refl _
  show _≤hv (if over most c=true then(d0,1) else _) C r
  rw[if_neg (show ¬ over most c=true from fun e=>Bool.noConfusion (h.symm.trans e))]
  show _≤(1+(b.s r+sm (fun j=>b.w j * (1+(ch j).2)) r))+sm (fun t=>((if c<least then 0 else d0 t)+sm (fun j=>b.w j * (ch j).1 (t-j)) t) * C (r-t)) r
  rw[sm_congr (f:=fun t=>((if c<least then 0 else d0 t)+sm (fun j=>b.w j * (ch j).1 (t-j)) t) * C (r-t)) (g:=fun t=>(if c<least then 0 else d0 t) * C (r-t)+sm (fun j=>b.w j * (ch j).1 (t-j)) t * C (r-t)) fun t q_=>Nat.add_mul _ _ _,sm_add]
  exact Nat.le_trans (Nat.succ_le_succ (Nat.add_le_add h4 h3)) (ac6 _ _ _ _)
end
noncomputable def mx5 (f:Nat→Nat)(n:Nat):Nat:=@Nat.rec (fun q_=>Nat) (f 0) (fun n ih=>max ih (f (n+1))) n
theorem le_mx5 (f:Nat→Nat):∀ (n r:Nat),r≤n→f r≤mx5 f n
  | 0,r,h=>by cases Nat.le_zero.mp h;exact Nat.le_refl _
  | n+1,r,h=>by
    rcases Nat.lt_or_ge r (n+1) with q | q
    · exact Nat.le_trans (le_mx5 f n r (Nat.le_of_lt_succ q)) (Nat.le_max_left _ _)
    · rw[Nat.le_antisymm h q];exact Nat.le_max_right _ _
noncomputable def prep (least:Nat)(most:Option Nat)(b:Prof):Prof:=⟨fun j=>mx5 (fun r=>(hp least most b (least+r+2) 0 r).1 j) 4,fun r=>1+(hp least most b (least+r+2) 0 r).2⟩
theorem v_rep {least:Nat}{most:Option Nat}{b:Prof}{C:Nat→Nat}{r:Nat}(h:r≤4):hv (hp least most b (least+r+2) 0 r) C r+1≤val (prep least most b) C r:=by
  have k:sm (fun j=>(hp least most b (least+r+2) 0 r).1 j * C (r-j)) r≤sm (fun j=>(prep least most b).w j * C (r-j)) r:=sm_le fun j q_=>Nat.mul_le_mul_right _ (le_mx5 (fun r=>(hp least most b (least+r+2) 0 r).1 j) 4 r h)
  show(hp least most b (least+r+2) 0 r).2+_+1≤(1+(hp least most b (least+r+2) 0 r).2)+sm (fun j=>(prep least most b).w j * C (r-j)) r
  rw[Nat.add_comm,←Nat.add_assoc]
  exact Nat.add_le_add_left k _
end
section
set_option backward.match.sparseCases false
open PySem
theorem sub_s {n a:Nat}(h:a<n):n-a=n-(a+1)+1:=(Nat.succ_pred_eq_of_pos (Nat.sub_pos_of_lt h)).symm
noncomputable def rL (r:Option Rs):AV:=@Option.rec Rs (fun q_=>AV) .none (fun q => .tup [.int q.1,.lst q.2]) r
structure XOk (X:Cx):Prop where
  tx:TxOk X.cs X.fl
  sl:X.SL.length≤line
  z:X.nL+X.cnt+1<line
noncomputable def GOk (X:Cx)(g:List AV):Prop:=g.length=X.cnt∧∀ x∈g,x=AV.none∨∃ b e,b≤e∧e≤X.cs.length∧x=ZD b e
noncomputable def Ag (X:Cx)(l m:Nat)(p q:List AV):Prop:=q.length=p.length∧∀ i,(i<l∨X.nL+X.cnt+1-m≤i)→q[i]? = p[i]?
inductive Bo (X:Cx)(d:Nat)(Φ:Option Rs→Prop)(f:AV)(xs:List AV)(st:AV)(K C:Nat):Prop
  | mk (r:Option Rs) (h:Φ r) (law:∀ P,Yc K f xs P (rL r) P) (n:Nat) (hn:n≤C) (vm:Lp X d st r n K):Bo X d Φ f xs st K C
noncomputable def ks (X:Cx)(k0 k1 a:Nat):Nat:=k0+k1 * (X.cs.length+1-a)
noncomputable def Ends (X:Cx)(d:Nat)(Φ:Option Rs→Prop)(kc:Nat)(l:List (Nat×AV))(k0 k1:Nat)(C:Nat→Nat)(pc lv m a0:Nat)(lp:List AV):Prop :=
  ∀ a g q,a0≤a→a≤X.cs.length→GOk X g→Ag X lv m lp q→Bo X d Φ (.clo kc l) [.int a,.lst g] (stA pc a g q) (ks X k0 k1 a) (C (X.cs.length-a))
noncomputable def Sim (X:Cx)(v:AV)(sz A b:Nat)(P:Prof)(lk pc lv m:Nat):Prop:=∀ d Φ kc l k0 k1 C a g lp,lk≤d→Φ none→3≤k0→b≤k1→a≤X.cs.length→GOk X g→lp.length=X.nL+X.cnt+1→Ends X d Φ kc l k0 k1 C (pc+sz) lv m a lp →
  Bo X d Φ (.fn 43) [v,.str X.cs,.int a,.lst g,.str X.fl,.clo kc l] (stA pc a g lp) (A+ks X k0 k1 a) (val P C (X.cs.length-a))
section
variable {X:Cx}{d:Nat}{Φ:Option Rs→Prop}{f:AV}{xs:List AV}{st:AV}{K C K' C' n:Nat}
theorem Bo.mono (h:Bo X d Φ f xs st K C)(hk:K≤K')(hc:C≤C'):Bo X d Φ f xs st K' C':=by
  refine via fun R_ k_=>?_
  obtain⟨r,h1,h2,n,h3,h4⟩:=h
  refine k_ ?_
  exact⟨r,h1,fun P=>(h2 P).mono hk,n,Nat.le_trans h3 hc,h4.more hk⟩
theorem bo_none (hn:Φ none)(h:∀ P,Yc K f xs P .none P)(hc:n≤C)(l:Lp X d st none n K):Bo X d Φ f xs st K C:=⟨none,hn,h,n,hc,l⟩
theorem Ag.rfl {l m:Nat}{p:List AV}:Ag X l m p p:=⟨Eq.refl _,fun q_ q_=>Eq.refl _⟩
theorem Ag.trans {l m l' m':Nat}{p q r:List AV}(h:Ag X l m p q)(k:Ag X l' m' q r)(hl:l≤l')(hm:m≤m'):Ag X l m p r :=
  ⟨k.1.trans h.1,fun i hi=>(k.2 i (hi.imp (fun q=>Nat.lt_of_lt_of_le q hl) fun q=>Nat.le_trans (Nat.sub_le_sub_left hm _) q)).trans (h.2 i hi)⟩
theorem ks_le {k0 k1 a a':Nat}(h:a≤a'):ks X k0 k1 a'≤ks X k0 k1 a:=Nat.add_le_add_left (Nat.mul_le_mul_left _ (Nat.sub_le_sub_left h _)) _
theorem ks_add {k0 k1 a c:Nat}:ks X (k0+c) k1 a=ks X k0 k1 a+c:=Nat.add_right_comm _ _ _
theorem ks_ge {k0 k1 a:Nat}(h:3≤k0):3≤ks X k0 k1 a:=Nat.le_trans h (Nat.le_add_right _ _)
theorem nm_of {k:Int}{r:List AV}(h:JW .eq (.int k) (.int 15)=some false):NM (.tup (.int k::r)):=⟨k,r,Eq.refl _,h⟩
end
section
variable {X:Cx}(O:XOk X){pc lv m:Nat}
include O
theorem sim_sgn {v k:AV}{tk:Tk}{j:Int}{r:List AV}(mem:(v,tk)∈SgL)(h0:∀ tx a g fl kc l,X0 (f_law_meets.body.take 7) (FM0 v tx a g fl (.clo kc l))=V0 (.next,FM1 v tx a g fl (.clo kc l) k))
    (h1:∀ tx a g fl kc l,E0 (zD OpC.isIn (zQ 6) (jC [(jA [99,104,97,114]),(jA [97,110,121]),(jA [99,108,97,115,115])])) (FM1 v tx a g fl (.clo kc l) k)=V0 (.bool true))
    (hk:JW .le (.int j) (.int 2)=some true) (nm:JW .eq (.int j) (.int 15)=some false) (vt:∀ s sl L W c,c∈LT→Yc 4 (.fn 21) [.obj s,.tup (.int j::r),.int (c:Nat)] (SI X s sl L W) (.bool (tk (icOf X.fl) c)) (SI X s sl L W)) (hi:X.SL[pc]? = some (.tup (.int j::r))):Sim X v 1 1 0 pchar 0 pc lv m:=fun d Φ kc l k0 k1 C a g lp hd hn h3 hb ha hg hlp E=>by
  have hz:1≤val pchar C (X.cs.length-a):=Nat.le_add_right 1 _
  have h3':=ks_ge (X:=X) (k1:=k1) (a:=a) h3
  by_cases hal:a<X.cs.length
  · obtain ⟨c,hc,hm⟩:=lt_get hal O.tx.tx
    have law:∀ P:HP,Ye (ks X k0 k1 a) (FM1 v (.str X.cs) (.int a) (.lst g) (.str X.fl) (.clo kc l) k) sgE P (.bool (tk (icOf X.fl) c)) P:=fun P =>
      JQ (jY (x := .int a) (y := .int X.cs.length) (zW rfl) (JJ (zW rfl) O.tx.lin) (lt_t hal)) (ye_and1 (jD (f:=38) rfl (zY (zW rfl) (zY (ye_chr (zW rfl) (zW rfl) (Nat.le_trans ha O.tx.lin) hc) (zY (zW rfl) jF))) ((c_takes mem hm O.tx.flg).mono (Nat.le_of_succ_le h3'))))
    have vm:=fun s sl L W=>vt s sl L W c hm
    cases hb:tk (icOf X.fl) c with
    | true =>
      rw[hb] at vm
      simp only[hb] at law
      refine via fun R_ k_=>?_
      obtain⟨r',e1,e2,n,e3,e4⟩:=E (a+1) g lp (Nat.le_succ a) hal hg Ag.rfl
      refine k_ ?_
      have q:=ks_le (X:=X) (k0:=k0) (k1:=k1) (Nat.le_succ a)
      refine Bo.mono (K:=ks X k0 k1 a+1) (C:=n+0+1) ⟨r',e1,fun P=>l_sign (h0 _ _ _ _ _ _) (h1 _ _ _ _ _ _) (law P) (ye_itet (zW rfl) (ye_callk rfl (wW (by kernel_rfl)) ((e2 P).mono q))),n+0+1,Nat.le_refl _,lp_go O.sl hi (nm_of nm) (adv_sgn hk O.tx fun s sl M W=>sg_in O.tx hc vm) (e4.more (Nat.le_succ_of_le q)) (Nat.succ_le_succ (Nat.zero_le _))⟩ (Nat.le_of_eq (Nat.add_comm _ _)) ?_
      refine Nat.le_trans (Nat.succ_le_succ e3) ?_
      rw[sub_s hal]
      exact v_char
    | false =>
      rw[hb] at vm
      simp only[hb] at law
      exact Bo.mono (K:=ks X k0 k1 a+1) (bo_none hn (fun P=>l_sign (h0 _ _ _ _ _ _) (h1 _ _ _ _ _ _) (law P) (ye_itef (zW rfl) (zW rfl))) hz ((lp_fail O.sl hi (nm_of nm) (adv_sgn (b:=false) hk O.tx fun s sl M W=>sg_in O.tx hc vm)).more (Nat.succ_le_succ (Nat.zero_le _)))) (Nat.le_of_eq (Nat.add_comm _ _)) (Nat.le_refl _)
  · exact Bo.mono (K:=ks X k0 k1 a+1) (bo_none hn (fun P=>l_sign (b:=false) (h0 _ _ _ _ _ _) (h1 _ _ _ _ _ _) (ye_andf (jY (x := .int a) (y := .int X.cs.length) (zW rfl) (JJ (zW rfl) O.tx.lin) (lt_f (Nat.not_lt.mp hal)))) (ye_itef (zW rfl) (zW rfl))) hz ((lp_fail O.sl hi (nm_of nm) (adv_sgn (b:=false) hk O.tx fun s sl M W=>sg_end O.tx (Nat.not_lt.mp hal))).more (Nat.succ_le_succ (Nat.zero_le _)))) (Nat.le_of_eq (Nat.add_comm _ _)) (Nat.le_refl _)
theorem sim_std {v k:AV}{sd:Nat→Bool}{j:Int}{r:List AV}(h0:∀ tx a g fl kc l,X0 (f_law_meets.body.take 8) (FM0 v tx a g fl (.clo kc l))=V0 (.next,FM1 v tx a g fl (.clo kc l) k))
    (law:∀ a,a≤X.cs.length→∀ P,Yc 2 (.fn 37) [v,.str X.cs,.int a,.str X.fl] P (.bool (sd a)) P) (hk:JW .le (.int j) (.int 2)=some false) (hk2:JW .le (.int j) (.int 5)=some true) (nm:JW .eq (.int j) (.int 15)=some false)
    (vt:∀ a,a≤X.cs.length→∀ s sl L W,Yc 3 (.fn 22) [.obj s,.tup (.int j::r),.int (a:Nat)] (SI X s sl L W) (.bool (sd a)) (SI X s sl L W)) (hi:X.SL[pc]? = some (.tup (.int j::r))):Sim X v 1 1 0 pone 0 pc lv m:=fun d Φ kc l k0 k1 C a g lp hd hn h3 hb ha hg hlp E=>by
  have h3':=ks_ge (X:=X) (k1:=k1) (a:=a) h3
  have lw:=fun P=>(law a ha P).mono (Nat.le_of_succ_le h3')
  have vm:=vt a ha
  cases hb:sd a with
  | true =>
    rw[hb] at vm
    simp only[hb] at lw
    refine via fun R_ k_=>?_
    obtain⟨r',e1,e2,n,e3,e4⟩:=E a g lp (Nat.le_refl a) ha hg Ag.rfl
    refine k_ ?_
    exact Bo.mono (K:=ks X k0 k1 a+1) ⟨r',e1,fun P=>l_placeT (h0 _ _ _ _ _ _) (lw P) (e2 P),n+0+1,Nat.le_trans (Nat.succ_le_succ e3) v_one,lp_go O.sl hi (nm_of nm) (adv_std hk hk2 vm) (e4.more (Nat.le_succ _)) (Nat.succ_le_succ (Nat.zero_le _))⟩ (Nat.le_of_eq (Nat.add_comm _ _)) (Nat.le_refl _)
  | false =>
    rw[hb] at vm
    simp only[hb] at lw
    exact Bo.mono (K:=ks X k0 k1 a+1) (bo_none hn (fun P=>l_placeF (h0 _ _ _ _ _ _) (lw P)) (Nat.le_add_right 1 _) ((lp_fail O.sl hi (nm_of nm) (adv_std (b:=false) hk hk2 vm)).more (Nat.succ_le_succ (Nat.zero_le _)))) (Nat.le_of_eq (Nat.add_comm _ _)) (Nat.le_refl _)
end
end
section
set_option backward.match.sparseCases false
open PySem
noncomputable def Li (S:List AV)(pc:Nat)(c:List AV):Prop:=@List.rec AV (fun q_=>Nat→Prop) (fun q_=>True) (fun x q_ ih pc=>S[pc]? = some x∧ih (pc+1)) c pc
theorem li_app {S:List AV}:∀ {x y:List AV}{pc n:Nat},Li S pc (x++y)→x.length=n→Li S pc x∧Li S (pc+n) y
  | [],_,_,_,h,rfl=>⟨trivial,h⟩
  | i::r,y,pc,_,h,rfl=>by
    obtain⟨h1,h2⟩:=li_app (x:=r) h.2 rfl
    refine⟨⟨h.1,h1⟩,?_⟩
    rw[show pc+(i::r).length=pc+1+r.length from Nat.add_right_comm pc r.length 1]
    exact h2
theorem short_lt {n a b e:Nat}(ha:a≤n)(h:b≤e)(k:n<a+e-b):n-a<e-b:=Nat.sub_lt_left_of_lt_add ha (Nat.add_sub_assoc h a▸k)
theorem len_eq {a b e:Nat}(h:b≤e):e-b=a+e-b-a:=by rw[Nat.add_sub_assoc h,Nat.add_sub_cancel_left]
theorem ge_eq {a b e:Nat}(h:b≤e):a≤a+e-b:=Nat.add_sub_assoc h a▸Nat.le_add_right _ _
section
variable {X:Cx}(O:XOk X){pc lv m sz A b lk:Nat}{P:Prof}{v:AV}
include O
theorem gok_len {g:List AV}(hg:GOk X g):g.length<line:=by
  have:=O.z
  rw[hg.1]
  exact Nat.lt_of_le_of_lt (Nat.le_trans (Nat.le_add_left _ _) (Nat.le_succ _)) this
theorem mem_sub {k j c:Nat}(h:c∈(X.cs.take k).drop j):c∈LT:=O.tx.tx _ (List.mem_of_mem_take (List.mem_of_mem_drop h))
theorem sim_back {i:Nat}(hic:i<X.cnt)(hi:X.SL[pc]? = some (.tup [.int 8,.int ((i+1:Nat):Int)])):Sim X (.tup [kBack,.int ((i+1:Nat):Int)]) 1 2 0 pback 0 pc lv m:=fun d Φ kc l k0 k1 C a g lp hd hn h3 hb ha hg hlp E=>by
  have hz:1≤val pback C (X.cs.length-a):=Nat.le_add_right 1 _
  have h3':=ks_ge (X:=X) (k1:=k1) (a:=a) h3
  have gl:=Nat.le_of_lt (gok_len O hg)
  have hil:i<g.length:=hg.1▸hic
  have hx:g[i]? = some g[i]:=List.getElem?_eq_getElem hil
  have il:i≤line:=Nat.le_trans (Nat.le_of_lt hil) gl
  have nm:NM (.tup [.int 8,.int ((i+1:Nat):Int)]):=nm_of rfl
  have e2:ks X k0 k1 a+2=2+ks X k0 k1 a:=Nat.add_comm _ _
  have p1:1≤ks X k0 k1 a+2:=Nat.succ_le_succ (Nat.zero_le _)
  have k1':1≤ks X k0 k1 a:=Nat.le_trans (by decide) h3'
  have lin:=O.tx.lin
  have go:∀ e,a≤e→e≤X.cs.length→(∀ P v,Yc (ks X k0 k1 a) (.clo kc l) [.int e,.lst g] P v P→Yc (ks X k0 k1 a+2) (.fn 43) [.tup [kBack,.int ((i+1:Nat):Int)],.str X.cs,.int a,.lst g,.str X.fl,.clo kc l] P v P)→(∀ s sl M W,Yc 3 (.fn 23) [.obj s,g[i],.int a] (SI X s sl M W) (.int e) (SI X s sl M W)) →
      Bo X d Φ (.fn 43) [.tup [kBack,.int ((i+1:Nat):Int)],.str X.cs,.int a,.lst g,.str X.fl,.clo kc l] (stA pc a g lp) (2+ks X k0 k1 a) (val pback C (X.cs.length-a)):=fun e h1 h2 law vm=>by
    refine via fun R_ k_=>?_
    obtain⟨r',q1,q2,n,q3,q4⟩:=E e g lp h1 h2 hg Ag.rfl
    refine k_ ?_
    have q:=ks_le (X:=X) (k0:=k0) (k1:=k1) h1
    rw[←e2]
    refine⟨r',q1,fun P=>law P _ ((q2 P).mono q),n+0+1,Nat.le_trans (Nat.succ_le_succ q3) ?_,lp_go O.sl hi nm (adv_bckS hx gl vm) (q4.more (Nat.le_trans q (Nat.le_add_right _ _))) p1⟩
    have:=v_back (C:=C) (Nat.sub_le_sub_right h2 a)
    rw[Nat.sub_sub,Nat.add_sub_cancel' h1] at this
    exact this
  have no:(∀ P,Yc (ks X k0 k1 a+2) (.fn 43) [.tup [kBack,.int ((i+1:Nat):Int)],.str X.cs,.int a,.lst g,.str X.fl,.clo kc l] P .none P)→(∀ s sl M W,Yc 3 (.fn 23) [.obj s,g[i],.int a] (SI X s sl M W) .none (SI X s sl M W)) →
      Bo X d Φ (.fn 43) [.tup [kBack,.int ((i+1:Nat):Int)],.str X.cs,.int a,.lst g,.str X.fl,.clo kc l] (stA pc a g lp) (2+ks X k0 k1 a) (val pback C (X.cs.length-a)):=fun law vm=>by
    rw[←e2]
    exact bo_none hn law hz ((lp_fail O.sl hi nm (adv_bckN hx gl vm)).more p1)
  rcases hg.2 _ (List.getElem_mem hil) with hN | ⟨b,e,hbe,hel,hT⟩
  · rw[hN] at hx go no
    exact go a (Nat.le_refl a) ha (fun P v r=>l_back (l_met (w:=[]) il hx (zW (by kernel_rfl)) ha (Nat.le_trans ha lin) lin (l_metT k1' O.tx.flg (Nat.zero_le _) (fun p m=>nomatch m) (Nat.zero_le _) rfl r))) fun s sl M W=>v_none.mono (by decide)
  · rw [hT] at hx go no
    have hw:((X.cs.take e).drop b).length=e-b:=by rw[List.length_drop,List.length_take,Nat.min_eq_left hel]
    have he:a+((X.cs.take e).drop b).length=a+e-b:=by rw[hw,Nat.add_sub_assoc hbe]
    have wl:((X.cs.take e).drop b).length≤line:=by rw[hw];exact Nat.le_trans (Nat.sub_le _ _) (Nat.le_trans hel lin)
    have hh:(hereL X.cs ((X.cs.take e).drop b) a).length=min (a+e-b) X.cs.length-a:=by
      show((X.cs.take (a+((X.cs.take e).drop b).length)).drop a).length=_
      rw[he,List.length_drop,List.length_take]
    have al:a+((X.cs.take e).drop b).length≤line:=by
      rw[hw]
      exact Nat.le_trans (Nat.add_le_add ha (Nat.le_trans (Nat.sub_le _ _) hel)) (Nat.le_trans (Nat.add_le_add O.tx.len O.tx.len) (by decide))
    have wd:∀ P,Ye (ks X k0 k1 a) (FB (.tup [kBack,.int ((i+1:Nat):Int)]) (.str X.cs) (.int a) (.lst g) (.str X.fl) (.clo kc l) (some (ZD b e)) none none) (n_ite (zD OpC.is (zQ 6) jV) (jA []) (n_slc (zQ 1) (some (zA (zQ 6) (zX 0))) (some (zA (zQ 6) (zX 1))))) P (.str ((X.cs.take e).drop b)) P:=fun P =>
      ye_itef (zW (by kernel_rfl)) (ye_slc (x := .str X.cs) (y := .int b) (z := .int e) (zW rfl) (zW (by kernel_rfl)) (zW (by kernel_rfl)) fun H q_=>zslc_str (Nat.le_trans hbe hel) (Nat.le_trans hel lin) lin)
    by_cases hlong:X.cs.length<a+e-b
    · exact no (fun P=>l_back (l_met il hx (wd P) ha al lin (l_metS wl (by rw[hh,hw,Nat.min_eq_right (Nat.le_of_lt hlong)];exact short_lt ha hbe hlong)))) fun s sl M W=>(v_long O.tx hbe hlong).mono (by decide)
    · have hle:=Nat.not_lt.mp hlong
      have vm:=fun s sl M W=>v_loop (s:=s) (sl:=sl) (L:=M) (W:=W) O.tx hbe hel ha hle
      have hp:∀ p∈((X.cs.take e).drop b).zip (hereL X.cs ((X.cs.take e).drop b) a),p.1∈LT∧p.2∈LT:=fun p m=>by
        have:=List.of_mem_zip (a:=p.1) (b:=p.2) m
        exact⟨mem_sub O this.1,mem_sub O this.2⟩
      have hlen:((X.cs.take e).drop b).length≤(hereL X.cs ((X.cs.take e).drop b) a).length:=by rw[hh,hw,Nat.min_eq_left hle];exact Nat.le_of_eq (len_eq hbe)
      have hq:misL X.fl (((X.cs.take e).drop b).zip ((X.cs.take (a+e-b)).drop a))=misL X.fl (((X.cs.take e).drop b).zip (hereL X.cs ((X.cs.take e).drop b) a)):=by
        show _=misL X.fl (((X.cs.take e).drop b).zip ((X.cs.take (a+((X.cs.take e).drop b).length)).drop a))
        rw[he]
      rw[hq] at vm
      cases hm:misL X.fl (((X.cs.take e).drop b).zip (hereL X.cs ((X.cs.take e).drop b) a)) with
      | nil =>
        rw[hm] at vm
        exact go (a+e-b) (ge_eq hbe) hle (fun P v r=>l_back (l_met il hx (wd P) ha al lin (l_metT k1' O.tx.flg wl hp hlen (by rw[hm];rfl) (by rw[he];exact r)))) vm
      | cons _ _ =>
        rw[hm] at vm
        exact no (fun P=>l_back (l_met il hx (wd P) ha al lin (l_metD k1' O.tx.flg wl hp hlen (by rw[hm];rfl)))) vm
end
end
section
set_option backward.match.sparseCases false
open PySem
theorem k_le {A k:Nat}(i j:Nat)(h:i≤j):A+k+i≤A+j+k:=by
  rw[Nat.add_right_comm]
  exact Nat.add_le_add_right (Nat.add_le_add_left h A) k
theorem k_le2 {A k:Nat}(i j n:Nat)(h:i+j≤n):A+(k+i)+j≤A+n+k:=by
  rw[←Nat.add_assoc,Nat.add_assoc _ i j]
  exact k_le _ _ h
theorem k_le3 {A k:Nat}:A+(k+2)+2≤k+(A+4):=by
  rw[←Nat.add_assoc,Nat.add_comm A k,←Nat.add_assoc]
  exact Nat.le_refl _
theorem k_le4 {A B k:Nat}:A+(k+(B+4))+2≤A+B+6+k:=by
  rw[Nat.add_comm k,←Nat.add_assoc,←Nat.add_assoc,Nat.add_right_comm]
  exact Nat.le_refl _
section
variable {X:Cx}(O:XOk X){pc lv m sz A b lk:Nat}{P:Prof}{v:AV}
theorem Sim.gno (S:Sim X v sz A b P lk pc lv m):Sim X (.tup [kGrp,.none,v]) sz (A+2) b P lk pc lv m:=fun d Φ kc l k0 k1 C a g lp hd hn h3 hb ha hg hlp E=>by
  refine via fun R_ k_=>?_
  obtain⟨r,q1,q2,n,q3,q4⟩:=S d Φ kc l k0 k1 C a g lp hd hn h3 hb ha hg hlp E
  refine k_ ?_
  exact Bo.mono (K:=A+ks X k0 k1 a+1) ⟨r,q1,fun P=>l_gno (q2 P),n,q3,q4.more (Nat.le_succ _)⟩ (k_le 1 2 (by decide)) (Nat.le_refl _)
theorem Sim.seq1 (S:Sim X v sz A b P lk pc lv m):Sim X (.tup [kSeq,.tup [v]]) sz (A+4) b P lk pc lv m:=fun d Φ kc l k0 k1 C a g lp hd hn h3 hb ha hg hlp E=>by
  obtain ⟨r,q1,q2,n,q3,q4⟩:=S d Φ 0 (kA kc l (.str X.fl) (.str X.cs) [v]) (k0+2) k1 C a g lp hd hn (Nat.le_succ_of_le (Nat.le_succ_of_le h3)) hb ha hg hlp fun a' g' lp' e1 e2 e3 e4=>by
    refine via fun R_ k_=>?_
    obtain⟨r,q1,q2,n,q3,q4⟩:=E a' g' lp' e1 e2 e3 e4
    refine k_ ?_
    rw[ks_add]
    exact⟨r,q1,fun P=>l_k1 (q2 P),n,q3,q4.more (Nat.le_add_right _ _)⟩
  rw[ks_add] at q2 q4
  exact Bo.mono (K:=A+(ks X k0 k1 a+2)+2) ⟨r,q1,fun P=>l_seq1 (q2 P),n,q3,q4.more (Nat.le_add_right _ _)⟩ (k_le2 2 2 4 (by decide)) (Nat.le_refl _)
theorem Sim.seq2 {v2:AV}{sz2 A2 nl gm:Nat}{P2:Prof}(S:Sim X v sz A b P lk pc lv m)(S2:Sim X v2 sz2 A2 b P2 lk (pc+sz) (lv+nl) (m+gm)):Sim X (.tup [kSeq,.tup [v,v2]]) (sz+sz2) (A+A2+6) b (pcomp P P2) lk pc lv m:=fun d Φ kc l k0 k1 C a g lp hd hn h3 hb ha hg hlp E=>by
  have h32:3≤k0+2:=Nat.le_succ_of_le (Nat.le_succ_of_le h3)
  obtain ⟨r,q1,q2,n,q3,q4⟩:=S d Φ 0 (kA kc l (.str X.fl) (.str X.cs) [v,v2]) (k0+(A2+4)) k1 (val P2 C) a g lp hd hn (Nat.le_trans h3 (Nat.le_add_right _ _)) hb ha hg hlp fun a' g' lp' e1 e2 e3 e4=>by
    obtain ⟨r,q1,q2,n,q3,q4⟩:=S2 d Φ 0 (kA kc l (.str X.fl) (.str X.cs) [v2]) (k0+2) k1 C a' g' lp' hd hn h32 hb e2 e3 (e4.1.trans hlp) fun a2 g2 lp2 f1 f2 f3 f4=>by
      refine via fun R_ k_=>?_
      obtain⟨r,q1,q2,n,q3,q4⟩:=E a2 g2 lp2 (Nat.le_trans e1 f1) f2 f3 (e4.trans f4 (Nat.le_add_right _ _) (Nat.le_add_right _ _))
      refine k_ ?_
      rw[ks_add]
      rw[←Nat.add_assoc] at q4
      exact⟨r,q1,fun P=>l_k1 (q2 P),n,q3,q4.more (Nat.le_add_right _ _)⟩
    rw[ks_add] at q2 q4
    exact Bo.mono (K:=A2+(ks X k0 k1 a'+2)+2) ⟨r,q1,fun P=>l_k2 (q2 P),n,q3,q4.more (Nat.le_add_right _ _)⟩ (by rw[ks_add];exact k_le3) (Nat.le_refl _)
  rw[ks_add] at q2 q4
  exact Bo.mono (K:=A+(ks X k0 k1 a+(A2+4))+2) ⟨r,q1,fun P=>l_seq2 (q2 P),n,q3,q4.more (Nat.le_add_right _ _)⟩ k_le4 v_comp
include O
theorem Sim.look {o:Bool}(S:Sim X v sz A b P lk (pc+1) lv m)(hP:∀ r,r≤4→val P (fun q_=>1) r<jG)(h1:X.SL[pc]? = some (.tup [.int 9,.bool o,.int ((pc+(sz+2):Nat):Int)]))(h2:X.SL[pc+1+sz]? = some (.tup [.int 15])):Sim X (.tup [JX,.bool o,v]) (sz+2) (A+1) b (plook P) (lk+1) pc lv m:=fun d Φ kc l k0 k1 C a g lp hd hn h3 hb ha hg hlp E=>by
  obtain⟨d,hd',rfl⟩:=wC hd
  obtain ⟨r,q1,q2,n,q3,q4⟩:=S d (fun r=>∀ q,r=some q→GOk X q.2) 3 [] 3 b (fun q_=>1) a g lp hd' (fun q e=>nomatch e) (Nat.le_refl 3) (Nat.le_refl b) ha hg hlp fun a' g' lp' e1 e2 e3 e4 =>
    ⟨some (a',g'),fun q e=>by cases e;exact e3,fun P=>l_k4.mono (Nat.le_trans (by decide) (ks_ge (Nat.le_refl 3))),1,Nat.le_refl 1,(lp_met O.sl h2).more (Nat.zero_le _)⟩
  have kk:A+ks X 3 b a≤A+ks X k0 k1 a:=Nat.add_le_add_left (Nat.add_le_add h3 (Nat.mul_le_mul_right _ hb)) A
  have q2:=fun P=>(q2 P).mono kk
  have q4:=q4.more kk
  have ek:A+ks X k0 k1 a+1=A+1+ks X k0 k1 a:=Nat.add_right_comm _ _ _
  have hs:n+1≤val (plook P) C (X.cs.length-a):=Nat.le_trans (Nat.succ_le_succ (Nat.le_trans q3 (Nat.le_add_left _ _))) v_look
  have adv:Adv X (d+1) (.tup [.int 9,.bool o,.int ((pc+(sz+2):Nat):Int)]) (stA pc a g lp) [] (lkV o (pc+(sz+2)) a g lp r) n (A+ks X k0 k1 a):=adv_look fun s sl M W hw=>c_run q4 (Nat.lt_of_le_of_lt q3 (hP _ (Nat.le_trans (Nat.sub_le _ _) O.tx.len))) hw
  have go:∀ g',GOk X g'→lkV o (pc+(sz+2)) a g lp r=stA (pc+(sz+2)) a g' lp→(∀ P w,Yc (A+ks X k0 k1 a) (.clo kc l) [.int a,.lst g'] P w P→Yc (A+ks X k0 k1 a+1) (.fn 43) [.tup [JX,.bool o,v],.str X.cs,.int a,.lst g,.str X.fl,.clo kc l] P w P) →
      Bo X (d+1) Φ (.fn 43) [.tup [JX,.bool o,v],.str X.cs,.int a,.lst g,.str X.fl,.clo kc l] (stA pc a g lp) (A+1+ks X k0 k1 a) (val (plook P) C (X.cs.length-a)):=fun g' hg' e law=>by
    refine via fun R_ k_=>?_
    obtain⟨r',f1,f2,n',f3,f4⟩:=E a g' lp (Nat.le_refl a) ha hg' Ag.rfl
    refine k_ ?_
    rw[e] at adv
    rw[←ek]
    exact⟨r',f1,fun P=>law P _ ((f2 P).mono (Nat.le_add_left _ _)),n'+n+1,Nat.le_trans (Nat.succ_le_succ (Nat.add_le_add f3 q3)) v_look,lp_go O.sl h1 (nm_of rfl) adv (f4.more (Nat.le_succ_of_le (Nat.le_add_left _ _))) (Nat.le_succ _)⟩
  have no:lkV o (pc+(sz+2)) a g lp r = .none→(∀ P,Yc (A+ks X k0 k1 a+1) (.fn 43) [.tup [JX,.bool o,v],.str X.cs,.int a,.lst g,.str X.fl,.clo kc l] P .none P) →
      Bo X (d+1) Φ (.fn 43) [.tup [JX,.bool o,v],.str X.cs,.int a,.lst g,.str X.fl,.clo kc l] (stA pc a g lp) (A+1+ks X k0 k1 a) (val (plook P) C (X.cs.length-a)):=fun e law=>by
    rw[e] at adv
    rw[←ek]
    exact bo_none hn law hs ((lp_fail O.sl h1 (nm_of rfl) adv).more (Nat.le_succ _))
  cases o with
  | true =>
    cases r with
    | none=>exact go g hg rfl fun P w k=>l_lookTN (q2 P) k
    | some q=>exact no rfl fun P=>l_lookTS (q2 P)
  | false =>
    cases r with
    | none=>exact no rfl fun P=>l_lookFN (q2 P)
    | some q=>exact go q.2 (q1 q rfl) rfl fun P w k=>l_lookFS (q2 P) k
end
end
section
set_option backward.match.sparseCases false
open PySem
theorem ez_ (a s t:Nat):a+1+s+1+t=a+(s+t+2):=by rw[Nat.add_right_comm (a+1+s) 1 t,Nat.add_right_comm a 1 s,Nat.add_right_comm (a+s) 1 t,Nat.add_assoc a s t];rfl
theorem top_le {nL cnt m:Nat}(hm:m≤cnt):nL≤nL+cnt-m:=by rw[Nat.add_sub_assoc hm];exact Nat.le_add_right _ _
theorem idx_ne2 {nL cnt m lv i:Nat}(hlv:lv≤nL)(hm:m+1≤cnt)(h:i<lv∨nL+cnt+1-m≤i):nL+cnt+1-(m+1)≠i:=by
  rw[Nat.add_sub_add_right]
  rcases h with h | h
  · exact Nat.ne_of_gt (Nat.lt_of_lt_of_le h (Nat.le_trans hlv (top_le (Nat.le_of_succ_le hm))))
  · rw[Nat.succ_sub (Nat.le_trans (Nat.le_of_succ_le hm) (Nat.le_add_left _ _))] at h
    exact Nat.ne_of_lt h
theorem Ag.weak {X:Cx}{l m l' m':Nat}{p q:List AV}(h:Ag X l' m' p q)(hl:l≤l')(hm:m≤m'):Ag X l m p q :=
  ⟨h.1,fun i hi=>h.2 i (hi.imp (fun q=>Nat.lt_of_lt_of_le q hl) fun q=>Nat.le_trans (Nat.sub_le_sub_left hm _) q)⟩
section
variable {X:Cx}(O:XOk X){pc lv m sz A b lk:Nat}{P:Prof}{v:AV}
include O
theorem Sim.alt {v2:AV}{sz2 nl gm:Nat}{P2:Prof}(S:Sim X v sz A b P lk (pc+1) lv m)(S2:Sim X v2 sz2 A b P2 lk (pc+1+sz+1) (lv+nl) (m+gm))(h1:X.SL[pc]? = some (.tup [.int 10,.int ((pc+1:Nat):Int),.int ((pc+1+sz+1:Nat):Int)]))(h2:X.SL[pc+1+sz]? = some (.tup [.int 11,.int ((pc+(sz+sz2+2):Nat):Int)])) :
    Sim X (.tup [kAlt,.tup [v,v2]]) (sz+sz2+2) (A+2) b (palt P P2) lk pc lv m:=fun d Φ kc l k0 k1 C a g lp hd hn h3 hb ha hg hlp E=>by
  have ez:=ez_ pc sz sz2
  obtain ⟨r2,f1,f2,n2,f3,f4⟩:=S2 d Φ kc l k0 k1 C a g lp hd hn h3 hb ha hg hlp fun a' g' lp' e1 e2 e3 e4=>by
    rw[ez]
    exact E a' g' lp' e1 e2 e3 (e4.weak (Nat.le_add_right _ _) (Nat.le_add_right _ _))
  obtain ⟨r1,q1,q2,n1,q3,q4⟩:=S d Φ kc l k0 k1 (fun q=>C q+1) a g lp hd hn h3 hb ha hg hlp fun a' g' lp' e1 e2 e3 e4=>by
    refine via fun R_ k_=>?_
    obtain⟨r,q1,q2,n,q3,q4⟩:=E a' g' lp' e1 e2 e3 e4
    refine k_ ?_
    exact⟨r,q1,q2,n+0+1,Nat.succ_le_succ q3,lp_go O.sl h2 (nm_of rfl) adv_jmp q4 (Nat.le_trans (by decide) (ks_ge h3))⟩
  obtain⟨n,g1,g2⟩:=lp_two (P0:=A+ks X k0 k1 a+1) O.sl h1 (nm_of rfl) adv_spl q4 f4 (Nat.le_refl _) (Nat.le_succ _)
  refine Bo.mono (K:=A+ks X k0 k1 a+1) (C:=val (palt P P2) C (X.cs.length-a)) ?_ (k_le 1 2 (by decide)) (Nat.le_refl _)
  have hc:n≤val (palt P P2) C (X.cs.length-a):=Nat.le_trans g1 (Nat.le_trans (Nat.succ_le_succ (Nat.add_le_add q3 f3)) v_alt)
  cases r1 with
  | none=>exact⟨r2,f1,fun P=>l_altN (q2 P) (f2 P),n,hc,g2⟩
  | some q=>exact⟨some q,q1,fun P=>l_altS (q2 P),n,hc,g2⟩
theorem Sim.grp (S:Sim X v sz A b P lk (pc+1) lv (m+1))(hm:m+1≤X.cnt)(hlv:lv≤X.nL)(h1:X.SL[pc]? = some (.tup [.int 6,.int ((m+1:Nat):Int)]))(h2:X.SL[pc+1+sz]? = some (.tup [.int 7,.int ((m+1:Nat):Int)])) :
    Sim X (.tup [kGrp,.int ((m+1:Nat):Int),v]) (sz+2) (A+2) b (pgrp P) lk pc lv m:=fun d Φ kc l k0 k1 C a g lp hd hn h3 hb ha hg hlp E=>by
  have hz:=O.z
  have hll:lp.length≤line:=by rw[hlp];exact Nat.le_of_lt hz
  have hml:m+1≤lp.length:=by rw[hlp];exact Nat.le_trans hm (Nat.le_trans (Nat.le_add_left _ _) (Nat.le_succ _))
  have hidx:lp.length-(m+1)<lp.length:=Nat.sub_lt (Nat.lt_of_lt_of_le (Nat.succ_pos m) hml) (Nat.succ_pos m)
  obtain ⟨r,q1,q2,n,q3,q4⟩:=S d Φ 2 (kG kc l (.int a) m) (k0+1) k1 (fun q=>C q+1) a g (lp.set (lp.length-(m+1)) (.int a)) hd hn (Nat.le_succ_of_le h3) hb ha hg (by rw[List.length_set];exact hlp) fun a' g' lp' e1 e2 e3 e4=>by
    have hl':lp'.length=lp.length:=e4.1.trans List.length_set
    have hat:lp'[lp'.length-(m+1)]? = some (.int a):=by
      rw[hl',e4.2 _ (.inr (by rw[hlp];exact Nat.le_refl _)),List.getElem?_set_self hidx]
    have hgm:m<g'.length:=by rw[e3.1];exact hm
    have hgok:GOk X (g'.set m (ZD a a')):=⟨by rw[List.length_set];exact e3.1,fun x hx=>by
      rcases List.mem_or_eq_of_mem_set hx with h | h
      · exact e3.2 x h
      · exact .inr ⟨a,a',e1,e2,h⟩⟩
    have hag:Ag X lv m lp lp':=⟨hl',fun i hi=>by
      have ne:lp.length-(m+1)≠i:=by
        rw[hlp]
        exact idx_ne2 hlv hm hi
      rw[e4.2 i (hi.imp id fun q=>Nat.le_trans (Nat.sub_le_sub_left (Nat.le_succ m) _) q),List.getElem?_set_ne ne]⟩
    refine via fun R_ k_=>?_
    obtain⟨r,q1,q2,n,q3,q4⟩:=E a' (g'.set m (ZD a a')) lp' e1 e2 hgok hag
    refine k_ ?_
    rw[ks_add]
    obtain⟨k,_,hk⟩:=wC (Nat.le_trans (show 1≤3 by decide) (ks_ge (X:=X) (k1:=k1) (a:=a') h3))
    exact ⟨r,q1,fun P=>by have:=q2 P;rw[hk] at this ⊢;exact l_k3 hgm (Nat.le_of_lt (gok_len O e3)) this,n+0+1,Nat.succ_le_succ q3,
      lp_go O.sl h2 (nm_of rfl) (adv_cls (hl'▸hml) (hl'▸hll) hgm (Nat.le_of_lt (gok_len O e3)) hat) (by rw[show pc+1+sz+1=pc+(sz+2) from congrArg (· + 1) (Nat.add_right_comm pc 1 sz)];exact q4.more (Nat.le_succ _)) (Nat.succ_le_succ (Nat.zero_le _))⟩
  rw[ks_add] at q2 q4
  exact Bo.mono (K:=A+(ks X k0 k1 a+1)+1) ⟨r,q1,fun P=>l_grp (q2 P),n+0+1,Nat.le_trans (Nat.succ_le_succ q3) v_grp,lp_go O.sl h1 (nm_of rfl) (adv_opn (Nat.succ_pos m) hml hll) (q4.more (Nat.le_succ _)) (Nat.succ_le_succ (Nat.zero_le _))⟩ (k_le2 1 1 2 (by decide)) (Nat.le_refl _)
end
end
section
set_option backward.match.sparseCases false
open PySem
theorem idx_ne {nL cnt m lv i:Nat}(hlv:lv<nL)(hm:m≤cnt)(h:i<lv∨nL+cnt+1-m≤i):lv≠i:=by
  rcases h with h | h
  · exact Nat.ne_of_gt h
  · exact Nat.ne_of_lt (Nat.lt_of_lt_of_le hlv (Nat.le_trans (top_le (nL:=nL) hm) (Nat.le_trans (Nat.sub_le_sub_right (Nat.le_succ _) m) h)))
theorem ag_loop {X:Cx}{lv m:Nat}{p0 p p':List AV}{x y:AV}(hlv:lv<X.nL)(hm:m≤X.cnt)(h:Ag X lv m p0 p)(e:Ag X (lv+1) m (p.set lv x) p'):Ag X lv m p0 (p'.set lv y) :=
  ⟨by rw[List.length_set,e.1,List.length_set];exact h.1,fun i hi=>by
    have ne:=idx_ne hlv hm hi
    rw[List.getElem?_set_ne ne,e.2 i (hi.imp (fun q=>Nat.lt_succ_of_lt q) id),List.getElem?_set_ne ne,h.2 i hi]⟩
theorem at_loop {X:Cx}{lv m:Nat}{p p':List AV}{x:AV}(hl:lv<p.length)(e:Ag X (lv+1) m (p.set lv x) p'):p'[lv]? = some x:=by
  rw[e.2 lv (.inl (Nat.lt_succ_self lv)),List.getElem?_set_self hl]
theorem clr_ok {X:Cx}{g:List AV}(f l:Nat)(hg:GOk X g):GOk X (clrA f l g 0):=by
  refine⟨by rw[clr_len];exact hg.1,fun x hx=>?_⟩
  obtain⟨i,hi,rfl⟩:=List.mem_iff_getElem.mp hx
  have e:=clr_at f l g 0 i
  rw[List.getElem?_eq_getElem hi] at e
  cases h:g[i]? with
  | none=>rw[h] at e;cases e
  | some y =>
    rw[h] at e
    have e:(clrA f l g 0)[i]=if f≤0+i+1∧0+i+1<l then AV.none else y:=Option.some.inj e
    rw[e]
    by_cases q:f≤0+i+1∧0+i+1<l
    · exact .inl (if_pos q)
    · rw[if_neg q]
      exact hg.2 y (List.mem_of_getElem? h)
theorem few_lt {least c n a a' f:Nat}(h:(least-c)+(n-a)<f+1)(hc:c<least)(e:a≤a'):(least-(c+1))+(n-a')<f:=by
  rw[sub_s hc,Nat.add_right_comm] at h
  exact Nat.lt_of_le_of_lt (Nat.add_le_add_left (Nat.sub_le_sub_left e n) _) (Nat.lt_of_succ_lt_succ h)
theorem more_lt {least c n a a' f:Nat}(h:(least-c)+(n-a)<f+1)(hc:least≤c)(e:a<a')(k:a'≤n):(least-(c+1))+(n-a')<f:=Nat.lt_of_lt_of_le (Nat.add_lt_add_of_le_of_lt (Nat.sub_le_sub_left (Nat.le_succ c) least) (Nat.sub_lt_sub_left (Nat.lt_of_lt_of_le e k) e)) (Nat.le_of_lt_succ h)
theorem sub_ne {n a a':Nat}(e:a<a')(k:a'≤n):n-a'≠n-a:=Nat.ne_of_lt (Nat.sub_lt_sub_left (Nat.lt_of_lt_of_le e k) e)
theorem frames_in {X:Cx}{k0 k1 b a a':Nat}(e:a<a')(k:a'≤X.cs.length):ks X k0 k1 a'+1+1≤ks X (k0+2+k1 * (X.cs.length-a)) b a':=by
  have:k1 * (X.cs.length+1-a')≤k1 * (X.cs.length-a):=Nat.mul_le_mul_left _ (Nat.le_trans (Nat.sub_le_sub_left e _) (Nat.le_of_eq (Nat.succ_sub_succ _ _)))
  show k0+_+1+1≤k0+2+_+_
  exact Nat.le_trans (Nat.le_trans (Nat.le_of_eq (Nat.add_right_comm k0 _ 2)) (Nat.add_le_add_left this _)) (Nat.le_add_right _ _)
theorem fr {A k0 Q B k1:Nat}(h:A+2+B≤k1):A+(k0+2+Q+B)≤k0+(Q+k1):=by
  refine Nat.le_trans (Nat.le_of_eq ?_) (Nat.add_le_add_left (Nat.add_le_add_left h Q) k0)
  rw[Nat.add_right_comm k0 2 Q,Nat.add_assoc (k0+Q) 2 B,Nat.add_left_comm,Nat.add_assoc k0 Q,Nat.add_assoc A 2 B]
theorem frames_ok {X:Cx}{A k0 k1 b a:Nat}(h:X.cs.length≤4)(ha:a≤X.cs.length)(hk:A+2+b * 5≤k1):A+ks X (k0+2+k1 * (X.cs.length-a)) b a≤ks X k0 k1 a:=by
  have h1:b * (X.cs.length+1-a)≤b * 5:=Nat.mul_le_mul_left _ (Nat.le_trans (Nat.sub_le _ _) (Nat.succ_le_succ h))
  have h2:k1 * (X.cs.length+1-a)=k1 * (X.cs.length-a)+k1:=by rw[Nat.succ_sub ha];rfl
  unfold ks
  rw[h2]
  exact fr (Nat.le_trans (Nat.add_le_add_left h1 _) hk)
noncomputable abbrev repK (c least A:Nat):Nat:=if c<least then A+3 else 1
theorem r_keep {K kc a c least first last:Nat}{P:HP}{tx fl t:AV}{l:List (Nat×AV)}{most:Option Nat}{lz:Bool}{gs:List AV}(r:Option Rs)(h:c<least):Ys K (FRc tx fl t kc l a c least first last most lz gs (some (rL r))) (f_law_again.body.drop 6) P (.ret (rL r)) (FRc tx fl t kc l a c least first last most lz gs (some (rL r))) P:=by
  cases r with
  | none=>exact r_keepL h
  | some q=>exact r_keepT
theorem one_repK (c least A:Nat):1≤repK c least A:=by
  by_cases h:c<least
  · rw[show repK c least A=A+3 from if_pos h];exact Nat.le_add_left 1 _
  · rw[show repK c least A=1 from if_neg h];exact Nat.le_refl 1
theorem repK_le {c least A:Nat}:repK c least A≤A+3:=by
  by_cases h:c<least
  · rw[show repK c least A=A+3 from if_pos h];exact Nat.le_refl _
  · rw[show repK c least A=1 from if_neg h];exact Nat.le_add_left 1 _
theorem ag_set {X:Cx}{lv m:Nat}{p:List AV}{x:AV}(hlv:lv<X.nL)(hm:m≤X.cnt):Ag X lv m p (p.set lv x):=⟨List.length_set,fun i hi=>List.getElem?_set_ne (idx_ne hlv hm hi)⟩
section
variable {X:Cx}(O:XOk X){pc lv m n sz A b lk d kc k0 k1 a0:Nat}{P:Prof}{v:AV}{Φ:Option Rs→Prop}{l:List (Nat×AV)}{C:Nat→Nat}{lp0:List AV}{least:Nat}{most:Option Nat}{lz:Bool}
noncomputable abbrev repX (X:Cx)(least:Nat)(most:Option Nat)(lz:Bool)(v:AV)(m n kc:Nat)(l:List (Nat×AV))(a:Nat)(g:List AV)(c:Nat):List AV:=[repT least most lz v (m+1) (n+1),.str X.cs,.int a,.lst g,.str X.fl,.clo kc l,.int c]
noncomputable def RepOk (X:Cx)(d:Nat)(Φ:Option Rs→Prop)(pc lv m n kc:Nat)(l:List (Nat×AV))(k0 k1 A:Nat)(P:Prof)(C:Nat→Nat)(v:AV)(least:Nat)(most:Option Nat)(lz:Bool)(a0:Nat)(lp0:List AV)(f:Nat):Prop :=
  ∀ c a g lp b',(least-c)+(X.cs.length-a)<f→a0≤a→a≤X.cs.length→GOk X g→lp.length=X.nL+X.cnt+1→lp[lv]? = some (ZD c b')→Ag X lv m lp0 lp→Bo X d Φ (.fn 40) (repX X least most lz v m n kc l a g c) (stA (pc+1) a g lp) (repK c least A+ks X k0 k1 a) (hv (hp least most P f c (X.cs.length-a)) C (X.cs.length-a))
variable (hn:Φ none)(hd:lk≤d)(h3:3≤k0)(hb:b≤k1)(hk1:A+2+b * 5≤k1)(hl1:least≤1)(hlv:lv<X.nL)(hm:m≤n)(hnc:n≤X.cnt)
  (h2:X.SL[pc+1]? = some (iHed lv least most lz (m+1) (n+1) (pc+(sz+3)))) (h4:X.SL[pc+2+sz]? = some (iTal lv least (pc+1))) (S:Sim X v sz A b P lk (pc+2) (lv+1) m) (E:Ends X d Φ kc l k0 k1 C (pc+(sz+3)) lv m a0 lp0)
include O hn hd h3 hb hk1 hl1 hlv hm hnc h2 h4 S E
omit hk1 E in
theorem rep_few {f c a b':Nat}{g lp:List AV}(ih:RepOk X d Φ pc lv m n kc l k0 k1 A P C v least most lz a0 lp0 f)(hf:(least-c)+(X.cs.length-a)<f+1)(ha0:a0≤a)(ha:a≤X.cs.length)(hg:GOk X g)(hlp:lp.length=X.nL+X.cnt+1)(hj:lp[lv]? = some (ZD c b'))(hag:Ag X lv m lp0 lp)(ho:over most c=false)(hc:c<least) :
    Bo X d Φ (.fn 40) (repX X least most lz v m n kc l a g c) (stA (pc+1) a g lp) (A+3+ks X k0 k1 a) (hv (hp least most P (f+1) c (X.cs.length-a)) C (X.cs.length-a)):=by
  have hll:lp.length≤line:=by rw[hlp];exact Nat.le_of_lt O.z
  have hlvl:lv<lp.length:=(List.getElem?_eq_some_iff.mp hj).1
  have hgl:=gok_len O hg
  have c1:¬ c+1<least:=Nat.not_lt.mpr (Nat.le_trans hl1 (Nat.le_add_left 1 c))
  obtain ⟨r,q1,q2,n1,q3,q4⟩:=S d Φ 1 (kO (.str X.cs) (.str X.fl) v kc l a c least (m+1) (n+1) most lz) (k0+2) k1 (bc least most P C f c (X.cs.length-a)) a (clrA (m+1) (n+1) g 0) (lp.set lv (ZD c a)) hd hn (Nat.le_trans h3 (Nat.le_add_right _ _)) hb ha (clr_ok _ _ hg) (by rw[List.length_set];exact hlp) fun a' g' lp' e1 e2 e3 e4=>by
    have hat:=at_loop hlvl e4
    have hl':lp'.length=X.nL+X.cnt+1:=by rw[e4.1,List.length_set];exact hlp
    have hll':lp'.length≤line:=by rw[hl'];exact Nat.le_of_lt O.z
    obtain⟨r,q1,q2,n1,q3,q4⟩:=ih (c+1) a' g' (lp'.set lv (ZD (c+1) a')) a' (few_lt hf hc e1) (Nat.le_trans ha0 e1) e2 e3 (by rw[List.length_set];exact hl') (List.getElem?_set_self (List.getElem?_eq_some_iff.mp hat).1) (ag_loop hlv (Nat.le_trans hm hnc) hag e4)
    rw[show repK (c+1) least A=1 from if_neg c1,Nat.add_comm 1 (ks X k0 k1 a')] at q2 q4
    rw[ks_add]
    refine⟨r,q1,fun P=>o_go (.inl hc) (q2 P),n1+0+1,?_,lp_go O.sl h4 (nm_of rfl) (adv_talG hll' hat (.inl hc)) (q4.more (Nat.le_succ _)) (Nat.succ_le_succ (Nat.zero_le _))⟩
    rw[show bc least most P C f c (X.cs.length-a) (X.cs.length-a')=_ from if_neg fun q=>absurd q.1 (Nat.not_le.mpr hc)]
    exact Nat.succ_le_succ q3
  rw[ks_add] at q2 q4
  refine Bo.mono (K:=A+(ks X k0 k1 a+2)+1) ⟨r,q1,fun P=>r_in (Nat.le_of_lt hgl) ho (r_few hc (r_body (q2 P) (r_keep r hc))),n1+0+1,?_,lp_go O.sl h2 (nm_of rfl) (adv_hedF hll hgl hj ho hm (hg.1▸hnc) hc) (q4.more (Nat.le_succ _)) (Nat.succ_le_succ (Nat.zero_le _))⟩ (k_le2 2 1 3 (by decide)) (Nat.le_refl _)
  have:=hp_in (b:=P) (C:=C) (f:=f) (r:=X.cs.length-a) (least:=least) ho
  rw[if_pos hc,Nat.zero_add] at this
  exact Nat.le_trans (Nat.succ_le_succ q3) this
omit hb hl1 in
theorem rep_more {f c a b':Nat}{g lp:List AV}(ih:RepOk X d Φ pc lv m n kc l k0 k1 A P C v least most lz a0 lp0 f)(hf:(least-c)+(X.cs.length-a)<f+1)(ha0:a0≤a)(ha:a≤X.cs.length)(hg:GOk X g)(hlp:lp.length=X.nL+X.cnt+1)(hj:lp[lv]? = some (ZD c b'))(hag:Ag X lv m lp0 lp)(ho:over most c=false)(hc:least≤c) :
    Bo X d Φ (.fn 40) (repX X least most lz v m n kc l a g c) (stA (pc+1) a g lp) (ks X k0 k1 a+1) (hv (hp least most P (f+1) c (X.cs.length-a)) C (X.cs.length-a)):=by
  have hll:lp.length≤line:=by rw[hlp];exact Nat.le_of_lt O.z
  have hlvl:lv<lp.length:=(List.getElem?_eq_some_iff.mp hj).1
  have hgl:=gok_len O hg
  have kk:=frames_ok (A:=A) (k0:=k0) O.tx.len ha hk1
  refine via fun R_ k_=>?_
  obtain⟨r0,p1,p2,n0,p3,p4⟩:=E a g lp ha0 ha hg hag
  refine k_ ?_
  obtain ⟨r,q1,q2,n1,q3,q4⟩:=S d Φ 1 (kO (.str X.cs) (.str X.fl) v kc l a c least (m+1) (n+1) most lz) (k0+2+k1 * (X.cs.length-a)) b (bc least most P C f c (X.cs.length-a)) a (clrA (m+1) (n+1) g 0) (lp.set lv (ZD c a)) hd hn (Nat.le_trans h3 (Nat.le_trans (Nat.le_add_right _ _) (Nat.le_add_right _ _))) (Nat.le_refl b) ha (clr_ok _ _ hg) (by rw[List.length_set];exact hlp) fun a' g' lp' e1 e2 e3 e4=>by
    have hat:=at_loop hlvl e4
    have hl':lp'.length=X.nL+X.cnt+1:=by rw[e4.1,List.length_set];exact hlp
    have hll':lp'.length≤line:=by rw[hl'];exact Nat.le_of_lt O.z
    by_cases ea:a'=a
    · subst ea
      refine bo_none (n:=1) hn (fun P=>(o_no hc).mono (Nat.le_trans (Nat.le_trans (by decide) (Nat.le_add_left 2 k0)) (Nat.le_trans (Nat.le_add_right _ _) (Nat.le_add_right _ _)))) ?_ ((lp_fail O.sl h4 (nm_of rfl) (adv_talN hll' hat hc)).more (Nat.le_trans (Nat.le_trans (by decide) (Nat.le_add_left 2 k0)) (Nat.le_trans (Nat.le_add_right _ _) (Nat.le_add_right _ _))))
      rw[show bc least most P C f c (X.cs.length-a') (X.cs.length-a')=1 from if_pos ⟨hc,rfl⟩]
      exact Nat.le_refl 1
    · have lt:a<a':=Nat.lt_of_le_of_ne e1 (Ne.symm ea)
      obtain⟨r,q1,q2,n1,q3,q4⟩:=ih (c+1) a' g' (lp'.set lv (ZD (c+1) a')) a' (more_lt hf hc lt e2) (Nat.le_trans ha0 e1) e2 e3 (by rw[List.length_set];exact hl') (List.getElem?_set_self (List.getElem?_eq_some_iff.mp hat).1) (ag_loop hlv (Nat.le_trans hm hnc) hag e4)
      rw[show repK (c+1) least A=1 from if_neg (Nat.not_lt.mpr (Nat.le_succ_of_le hc)),Nat.add_comm 1 (ks X k0 k1 a')] at q2 q4
      have kq:=frames_in (X:=X) (k0:=k0) (k1:=k1) (b:=b) lt e2
      refine⟨r,q1,fun P=>(o_go (.inr ea) (q2 P)).mono kq,n1+0+1,?_,lp_go O.sl h4 (nm_of rfl) (adv_talG hll' hat (.inr (Ne.symm ea))) (q4.more (Nat.le_trans (Nat.le_succ _) kq)) (Nat.le_trans (Nat.le_add_left 1 _) kq)⟩
      rw[show bc least most P C f c (X.cs.length-a) (X.cs.length-a')=_ from if_neg fun q=>absurd q.2 (sub_ne lt e2)]
      exact Nat.succ_le_succ q3
  have q2:=fun P=>(q2 P).mono kk
  have q4:=q4.more kk
  have hs:=hp_in (b:=P) (C:=C) (f:=f) (r:=X.cs.length-a) (least:=least) ho
  rw[if_neg (Nat.not_lt.mpr hc)] at hs
  cases lz with
  | true =>
    obtain⟨n2,g1,g2⟩:=lp_two O.sl h2 (nm_of rfl) (adv_hedZ hll hgl hj ho hm (hg.1▸hnc) hc) p4 q4 (Nat.le_refl _) (Nat.le_succ _)
    have hs:=Nat.le_trans g1 (Nat.le_trans (Nat.succ_le_succ (Nat.add_le_add p3 q3)) hs)
    cases r0 with
    | some q=>exact⟨some q,p1,fun P=>r_in (Nat.le_of_lt hgl) ho (r_lazyS hc (p2 P)),n2,hs,g2⟩
    | none =>
      cases r with
      | some q=>exact⟨some q,q1,fun P=>r_in (Nat.le_of_lt hgl) ho (r_lazyN hc (p2 P) (r_body (q2 P) r_keepT)),n2,hs,g2⟩
      | none=>exact⟨none,q1,fun P=>r_in (Nat.le_of_lt hgl) ho (r_lazyN hc (p2 P) (r_body (q2 P) (r_keepZ hc))),n2,hs,g2⟩
  | false =>
    obtain⟨n2,g1,g2⟩:=lp_two O.sl h2 (nm_of rfl) (adv_hedG hll hgl hj ho hm (hg.1▸hnc) hc) q4 p4 (Nat.le_refl _) (Nat.le_succ _)
    rw[Nat.add_comm (C _)] at hs
    have hs:=Nat.le_trans g1 (Nat.le_trans (Nat.succ_le_succ (Nat.add_le_add q3 p3)) hs)
    cases r with
    | some q=>exact⟨some q,q1,fun P=>r_in (Nat.le_of_lt hgl) ho (r_greedy hc (r_body (q2 P) r_keepT)),n2,hs,g2⟩
    | none=>exact⟨r0,p1,fun P=>r_in (Nat.le_of_lt hgl) ho (r_greedy hc (r_body (q2 P) (r_else hc (p2 P)))),n2,hs,g2⟩
theorem rep_all:∀ f,RepOk X d Φ pc lv m n kc l k0 k1 A P C v least most lz a0 lp0 f
  | 0=>fun c a g lp b' hf=>absurd hf (Nat.not_lt_zero _)
  | f + 1=>fun c a g lp b' hf ha0 ha hg hlp hj hag=>by
    have ih:=rep_all f
    cases ho:over most c with
    | true =>
      refine via fun R_ k_=>?_
      obtain⟨r0,p1,p2,n0,p3,p4⟩:=E a g lp ha0 ha hg hag
      refine k_ ?_
      refine Bo.mono (K:=ks X k0 k1 a+1) ⟨r0,p1,fun P=>r_over ho (p2 P),n0+0+1,Nat.le_trans (Nat.succ_le_succ p3) (hp_over ho),lp_go O.sl h2 (nm_of rfl) (adv_hedO (by rw[hlp];exact Nat.le_of_lt O.z) hj ho) (p4.more (Nat.le_succ _)) (Nat.succ_le_succ (Nat.zero_le _))⟩ ?_ (Nat.le_refl _)
      rw[Nat.add_comm]
      exact Nat.add_le_add_right (one_repK c least A) _
    | false =>
      by_cases hc:c<least
      · rw[show repK c least A=A+3 from if_pos hc]
        exact rep_few O hn hd h3 hb hl1 hlv hm hnc h2 h4 S ih hf ha0 ha hg hlp hj hag ho hc
      · rw[show repK c least A=1 from if_neg hc,Nat.add_comm 1 (ks X k0 k1 a)]
        exact rep_more O hn hd h3 hk1 hlv hm hnc h2 h4 S E ih hf ha0 ha hg hlp hj hag ho (Nat.not_lt.mp hc)
end
theorem Sim.rep {X:Cx}(O:XOk X){pc lv m n sz A b b2 lk:Nat}{P:Prof}{v:AV}{least:Nat}{most:Option Nat}{lz:Bool}(S:Sim X v sz A b P lk (pc+2) (lv+1) m)(hb:b≤b2)(hb2:A+2+b * 5≤b2)(hl1:least≤1)(hlv:lv<X.nL)(hm:m≤n)(hnc:n≤X.cnt)
    (h1:X.SL[pc]? = some (.tup [.int 12,.int lv])) (h2:X.SL[pc+1]? = some (iHed lv least most lz (m+1) (n+1) (pc+(sz+3)))) (h4:X.SL[pc+2+sz]? = some (iTal lv least (pc+1))) :
    Sim X (repT least most lz v (m+1) (n+1)) (sz+3) (A+4) b2 (prep least most P) lk pc lv m:=fun d Φ kc l k0 k1 C a g lp hd hn h3 hbk ha hg hlp E=>by
  have hll:lp.length≤line:=by rw[hlp];exact Nat.le_of_lt O.z
  have hlvl:lv<lp.length:=by rw[hlp];exact Nat.lt_of_lt_of_le hlv (Nat.le_trans (Nat.le_add_right _ _) (Nat.le_succ _))
  have R:=rep_all O hn hd h3 (Nat.le_trans hb hbk) (Nat.le_trans hb2 hbk) hl1 hlv hm hnc h2 h4 S E (lp0:=lp) (a0:=a) (least+(X.cs.length-a)+2) 0 a g (lp.set lv (ZD 0 a)) a (Nat.lt_add_of_pos_right (Nat.succ_pos 1)) (Nat.le_refl a) ha hg (by rw[List.length_set];exact hlp) (List.getElem?_set_self hlvl) (ag_set hlv (Nat.le_trans hm hnc))
  refine via fun R_ k_=>?_
  obtain⟨r,q1,q2,n1,q3,q4⟩:=R
  refine k_ ?_
  have hk:repK 0 least A≤A+3:=repK_le
  exact Bo.mono (K:=repK 0 least A+ks X k0 k1 a+1) ⟨r,q1,fun P=>l_rep (q2 P),n1+0+1,Nat.le_trans (Nat.succ_le_succ q3) (v_rep (Nat.le_trans (Nat.sub_le _ _) O.tx.len)),lp_go O.sl h1 (nm_of rfl) (adv_lop hlvl hll) (q4.more (Nat.le_succ _)) (Nat.succ_le_succ (Nat.zero_le _))⟩ (Nat.le_trans (Nat.succ_le_succ (Nat.add_le_add_right hk _)) (Nat.le_of_eq (Nat.add_right_comm (A+3) _ 1))) (Nat.le_refl _)
end
section
set_option backward.match.sparseCases false
open PySem
noncomputable def pF (L l:Nat)(f:Fld):Option AV:=@Fld.rec (fun q_=>Option AV) none none none none (some (.obj L)) (some (.int l)) none none none none f
theorem pF_loops {L l m:Nat}:(fun g=>if g=Fld.loops then some (AV.int m) else pF L l g)=pF L m:=funext fun g=>by cases g <;> rfl
structure Pcs (p L l:Nat)(xs:List AV)(O:List (Nat×AObj))(H:AH):Prop where
  inst:H[p]? = some (.inst .pcode (pF L l))
  list:H[L]? = some (.list xs)
  oth:∀ q∈O,H[q.1]? = some q.2∧q.1≠L∧q.1≠p
section
variable {p L l:Nat}{xs ys:List AV}{O:List (Nat×AObj)}{H:AH}{K:Nat}{F:AF}{e:XE}{v w:AV}
theorem Pcs.ne (h:Pcs p L l xs O H):p≠L:=fun e=>by cases (e▸h.inst).symm.trans h.list
theorem Pcs.put (h:Pcs p L l xs O H)(ys:List AV):Pcs p L l ys O (H.set L (.list ys)) :=
  ⟨by rw[List.getElem?_set_ne h.ne.symm];exact h.inst,List.getElem?_set_self (List.getElem?_eq_some_iff.mp h.list).1,fun q hq=>⟨by rw[List.getElem?_set_ne (h.oth q hq).2.1.symm];exact(h.oth q hq).1,(h.oth q hq).2⟩⟩
theorem q_inst (h:Pcs p L l xs O H):∃ fs,H[p]? = some (.inst .pcode fs):=⟨_,h.inst⟩
theorem q_steps:Ye K (some (.obj p)::F) (jU (zQ 0) .steps) (Pcs p L l xs O) (.obj L) (Pcs p L l xs O):=ye_attr (zW rfl) fun H h=>⟨_,_,h.inst,(fun q=>nomatch q),rfl⟩
theorem q_loops:Ye K (some (.obj p)::F) (jU (zQ 0) .loops) (Pcs p L l xs O) (.int l) (Pcs p L l xs O):=ye_attr (zW rfl) fun H h=>⟨_,_,h.inst,(fun q=>nomatch q),rfl⟩
theorem q_len (hl:xs.length≤line):Ye K (some (.obj p)::F) (zK (zB 39) [(jU (zQ 0) Fld.steps)]) (Pcs p L l xs O) (.int xs.length) (Pcs p L l xs O):=ye_lenL q_steps (fun H h=>h.list) hl
theorem len1:(xs++[v]).length=xs.length+1:=List.length_append
theorem c_emit (hl:xs.length<line):Yc 1 (.fn 10) [.obj p,v] (Pcs p L l xs O) (.int xs.length) (Pcs p L l (xs++[v]) O) :=
  ZJ (f:=f_PatternCode_emit) (F:=[some (.obj p),some v]) (fl := .ret (.int xs.length)) rfl rfl (zG (yx_expr (v := .none) (ye_meth ⟨rfl,rfl⟩ q_steps (fun H h=>⟨_,h.list⟩) (zY (zW rfl) jF) (y_app fun H h=>⟨xs,h.list,hl,h.put _⟩)) rfl) (jJ (JK (x := .int ((xs.length+1:Nat):Int)) (y := .int 1) (len1 (xs:=xs) (v:=v)▸q_len (by rw[len1];exact hl)) (zW rfl) (congrArg (fun i=>some (AV.int i)) (sub1 _)))))
theorem e_emit (hl:xs.length<line)(he:Ye (K+1) (some (.obj p)::F) e (Pcs p L l xs O) v (Pcs p L l xs O)):Ye (K+1) (some (.obj p)::F) (ZK (zQ 0) 0 [e]) (Pcs p L l xs O) (.int xs.length) (Pcs p L l (xs++[v]) O) :=
  ye_own (j:=10) (zW rfl) (fun H h=>q_inst h) (fun q=>nomatch q) rfl (zY he jF) ((c_emit hl).mono (Nat.succ_le_succ (Nat.zero_le K)))
theorem x_emit (hl:xs.length<line)(he:Ye (K+1) (some (.obj p)::F) e (Pcs p L l xs O) v (Pcs p L l xs O)):Yx (K+1) (some (.obj p)::F) (ZX (ZK (zQ 0) 0 [e])) (Pcs p L l xs O) (some (.obj p)::F) (Pcs p L l (xs++[v]) O):=yx_expr (e_emit hl he) rfl
theorem x_seti {i:Nat}{k:XE}(hi:i<xs.length)(hl:xs.length≤line)(he:Ye K (some (.obj p)::F) e (Pcs p L l xs O) v (Pcs p L l xs O))(hk:E0 k (some (.obj p)::F)=V0 (.int (i:Nat))):Yx K (some (.obj p)::F) (zU (t_sub (jU (zQ 0) Fld.steps) k) e) (Pcs p L l xs O) (some (.obj p)::F) (Pcs p L l (xs.set i v) O) :=
  yx_seti he q_steps (zW hk) fun H h=>⟨xs,h.list,hi,hl,h.put _⟩
end
noncomputable def Put (v:AV)(sz nl:Nat)(cd:Nat→Nat→List AV)(K:Nat):Prop:=∀ p L l xs O,xs.length+sz<line→Yc K (.fn 11) [.obj p,v] (Pcs p L l xs O) .none (Pcs p L (l+nl) (xs++cd xs.length l) O)
section
variable {K:Nat}{F F1 F':AF}{P Q R:HP}{a b:List XS}{c:XE}{s:XS}{r:List XS}
theorem ys_else (h:Ye K F c P (.bool false) Q)(k:Ys K F b Q .next F1 R):Ys K F [wB c a b] P .next F1 R:=fun n hn=>zV (f:=fun p=>ZU (exs GlT (ac n) jG []) p) (v:=(Flo.next,F1)) (zV (f:=fun v=>zZ (jW (wH v)) fun t=>if t then exs GlT (ac n) jG a F else exs GlT (ac n) jG b F) (h n hn) (k n hn)) wQ
theorem ys_then (h:Ye K F c P (.bool true) Q)(k:Ys K F a Q .next F1 R):Ys K F [wB c a b] P .next F1 R:=ys_ifn h k ZY
end
noncomputable abbrev FU (p:Nat)(v:AV)(k t a:Option AV):AF:=[some (.obj p),some v,k,t,a]
section
variable {p L l K sz nl:Nat}{xs ys:List AV}{O:List (Nat×AObj)}{v w k:AV}{F:AF}{e:XE}{F':AF}{P Q:HP}{cd:Nat→Nat→List AV}
theorem x_put (h:Put v sz nl cd K)(hl:xs.length+sz<line)(he:Ye K (some (.obj p)::F) e (Pcs p L l xs O) v (Pcs p L l xs O)):Yx K (some (.obj p)::F) (ZX (ZK (zQ 0) 1 [e])) (Pcs p L l xs O) (some (.obj p)::F) (Pcs p L (l+nl) (xs++cd xs.length l) O) :=
  yx_expr (ye_own (j:=11) (zW rfl) (fun H h=>q_inst h) (fun q=>nomatch q) rfl (zY he jF) (h p L l xs O hl)) rfl
theorem put_top (hk:E0 (zA (zQ 1) (zX 0)) (FU p v none none none)=V0 k)(h:Ys K (FU p v (some k) none none) (f_PatternCode_put.body.drop 1) P .next F' Q):Yc (K+1) (.fn 11) [.obj p,v] P .none Q :=
  ZJ (f:=f_PatternCode_put) (F:=FU p v none none none) (fl := .next) rfl rfl (zG (F1:=FU p v (some k) none none) (jK (zW hk) (by show 2<5;decide)) h)
theorem put_leaf {ks:List Nat}{i:AV}(hk:∀ p,E0 (zA (zQ 1) (zX 0)) (FU p v none none none)=V0 (.str ks))(hne:∀ s,s∈[[97,108,116],[115,101,113],[103,114,111,117,112],[108,111,111,107],[114,101,112,101,97,116]]→decide (ks=s)=false)
    (hi:∀ p P,Yc 1 (.fn 12) [.obj p,v] P i P):Put v 1 0 (fun q_ q_=>[i]) 2:=fun p L l xs O hl=>by
  have no:∀ s,s∈[[97,108,116],[115,101,113],[103,114,111,117,112],[108,111,111,107],[114,101,112,101,97,116]]→Ye 1 (FU p v (some (.str ks)) none none) (zD OpC.eq (zQ 2) (jA s)) (Pcs p L l xs O) (.bool false) (Pcs p L l xs O):=fun s hs=>jY (x := .str ks) (y := .str s) (zW rfl) (zW rfl) (congrArg some (hne s hs))
  exact put_top (hk p) (ys_else (no _ (.head _)) (ys_else (no _ (.tail _ (.head _))) (ys_else (no _ (.tail _ (.tail _ (.head _)))) (ys_else (no _ (.tail _ (.tail _ (.tail _ (.head _))))) (ys_else (no _ (.tail _ (.tail _ (.tail _ (.tail _ (.head _)))))) (zG (x_emit (K:=0) (Nat.lt_of_succ_lt hl) (ye_own (j:=12) (zW rfl) (fun H h=>q_inst h) (fun q=>nomatch q) rfl (wW rfl) (hi p _))) ZY))))))
theorem put_gno (h:Put v sz nl cd K):Put (.tup [kGrp,.none,v]) sz nl cd (K+2):=fun p L l xs O hl =>
  put_top (k:=kGrp) (by kernel_rfl) (ys_else (zW (by kernel_rfl)) (ys_else (zW (by kernel_rfl)) (ys_then (zW (by kernel_rfl)) (zG (yx_expr (v := .none) (ye_own (j:=14) (zW rfl) (fun H h=>q_inst h) (fun q=>nomatch q) rfl (wW (vs:=[.none,v]) (by kernel_rfl))
    (ZJ (f:=f_PatternCode_put_group) (fl := .ret .none) (F:=[some (.obj p),some .none,some v]) rfl rfl (wX (zW (by kernel_rfl)) (zG (x_put h hl (zW rfl)) (ys_retN))))) rfl) ZY))))
end
end
section
set_option backward.match.sparseCases false
open PySem
theorem w1 {x s L:Nat}(h:x+(s+2)<L):x+1+s<L:=Nat.lt_of_le_of_lt (Nat.le_trans (Nat.le_of_eq (Nat.add_right_comm x 1 s)) (Nat.le_succ _)) h
theorem y_post {α:Type}{m:AM α}{P Q R:HP}{v:α}(h:Yl m P v Q)(k:∀ H,Q H→R H):Yl m P v R:=fun H p=>by
  obtain⟨H',e,q⟩:=h H p
  exact⟨H',e,k H' q⟩
theorem set_mid {α:Type}{xs c:List α}{n v:α}:(xs++[n]++c).set xs.length v=xs++[v]++c:=by
  rw[List.append_assoc,List.append_assoc,List.set_append_right _ _ (Nat.le_refl _),Nat.sub_self];rfl
theorem app3 {α:Type}{xs c:List α}{a b:α}:xs++[a]++c++[b]=xs++a::(c++[b]):=by
  rw[List.append_assoc,List.append_assoc];rfl
theorem len_mid {α:Type}{xs c:List α}{a:α}{n:Nat}(h:c.length=n):(xs++[a]++c).length=xs.length+1+n:=by
  rw[List.length_append,List.length_append,h];rfl
section
variable {p L l K sz nl sz2 nl2:Nat}{xs ys:List AV}{O:List (Nat×AObj)}{v v2 w k:AV}{F:AF}{e:XE}{F':AF}{P Q:HP}{cd cd2:Nat→Nat→List AV}
theorem put_seq1 (h:Put v sz nl cd K):Put (.tup [kSeq,.tup [v]]) sz nl cd (K+1):=fun p L l xs O hl =>
  put_top (k:=kSeq) (F':=FU p (.tup [kSeq,.tup [v]]) (some kSeq) (some v) none) (by kernel_rfl) (ys_else (zW (by kernel_rfl)) (ys_then (zW (by kernel_rfl)) (zG (yx_for (xs:=[v]) (fun n=>wD fun H=>by kernel_rfl) fun n hn =>
    zV (f:=fun p=>ZU (afor (fun x F=>zZ ((zC 3 false).st GlT (ac n) x F) fun F'=>exs GlT (ac n) jG [(ZX (ZK (zQ 0) 1 [(zQ 3)]))] F') []) p) (v:=(Flo.next,FU p (.tup [kSeq,.tup [v]]) (some kSeq) (some v) none))
      (zV (f:=fun F'=>exs GlT (ac n) jG [(ZX (ZK (zQ 0) 1 [(zQ 3)]))] F') (v:=FU p (.tup [kSeq,.tup [v]]) (some kSeq) (some v) none) (wD fun H=>by kernel_rfl) (zG (x_put h hl (zW rfl)) ZY n hn)) wQ) ZY)))
theorem put_seq2 (h:Put v sz nl cd K)(h2:Put v2 sz2 nl2 cd2 K)(hc:∀ pc l,(cd pc l).length=sz):Put (.tup [kSeq,.tup [v,v2]]) (sz+sz2) (nl+nl2) (fun pc l=>cd pc l++cd2 (pc+sz) (l+nl)) (K+1):=fun p L l xs O hl=>by
  have hx:(xs++cd xs.length l).length=xs.length+sz:=by rw[List.length_append,hc]
  have b:=x_put h2 (p:=p) (L:=L) (l:=l+nl) (xs:=xs++cd xs.length l) (O:=O) (K:=K) (F:=(FU p (.tup [kSeq,.tup [v,v2]]) (some kSeq) (some v2) none).tail) (e:=zQ 3) (by rw[hx,Nat.add_assoc];exact hl) (zW rfl)
  rw[hx,List.append_assoc,Nat.add_assoc l] at b
  exact put_top (k:=kSeq) (F':=FU p (.tup [kSeq,.tup [v,v2]]) (some kSeq) (some v2) none) (by kernel_rfl) (ys_else (zW (by kernel_rfl)) (ys_then (zW (by kernel_rfl)) (zG (yx_for (xs:=[v,v2]) (fun n=>wD fun H=>by kernel_rfl) fun n hn =>
    zV (f:=fun p=>ZU (afor (fun x F=>zZ ((zC 3 false).st GlT (ac n) x F) fun F'=>exs GlT (ac n) jG [(ZX (ZK (zQ 0) 1 [(zQ 3)]))] F') [v2]) p) (v:=(Flo.next,FU p (.tup [kSeq,.tup [v,v2]]) (some kSeq) (some v) none))
      (zV (f:=fun F'=>exs GlT (ac n) jG [(ZX (ZK (zQ 0) 1 [(zQ 3)]))] F') (v:=FU p (.tup [kSeq,.tup [v,v2]]) (some kSeq) (some v) none) (wD fun H=>by kernel_rfl) (zG (x_put h (Nat.lt_of_le_of_lt (Nat.add_le_add_left (Nat.le_add_right _ _) _) hl) (zW rfl)) ZY n hn))
      (zV (f:=fun p=>ZU (afor (fun x F=>zZ ((zC 3 false).st GlT (ac n) x F) fun F'=>exs GlT (ac n) jG [(ZX (ZK (zQ 0) 1 [(zQ 3)]))] F') []) p) (v:=(Flo.next,FU p (.tup [kSeq,.tup [v,v2]]) (some kSeq) (some v2) none))
        (zV (f:=fun F'=>exs GlT (ac n) jG [(ZX (ZK (zQ 0) 1 [(zQ 3)]))] F') (v:=FU p (.tup [kSeq,.tup [v,v2]]) (some kSeq) (some v2) none) (wD fun H=>by kernel_rfl) (zG b ZY n hn)) wQ)) ZY)))
theorem put_grp {m:Nat}(h:Put v sz nl cd (K+1))(hc:∀ pc l,(cd pc l).length=sz):Put (.tup [kGrp,.int ((m+1:Nat):Int),v]) (sz+2) nl (fun pc l => .tup [.int 6,.int ((m+1:Nat):Int)]::(cd (pc+1) l++[.tup [.int 7,.int ((m+1:Nat):Int)]])) (K+3):=fun p L l xs O hl=>by
  have e1:=len1 (xs:=xs) (v := .tup [.int 6,.int ((m+1:Nat):Int)])
  have b:=x_put h (p:=p) (L:=L) (l:=l) (xs:=xs++[.tup [.int 6,.int ((m+1:Nat):Int)]]) (O:=O) (F:=[some (.int ((m+1:Nat):Int)),some v]) (e:=zQ 2) (by rw[e1];exact w1 hl) (zW rfl)
  rw[e1] at b
  have c:=x_emit (p:=p) (L:=L) (l:=l+nl) (xs:=xs++[.tup [.int 6,.int ((m+1:Nat):Int)]]++cd (xs.length+1) l) (O:=O) (K:=K) (F:=[some (.int ((m+1:Nat):Int)),some v]) (e:=jC [(zB 23),(zQ 1)]) (v := .tup [.int 7,.int ((m+1:Nat):Int)]) (by rw[len_mid (hc _ _)];exact w1 hl) (zW rfl)
  rw[app3] at c
  exact put_top (k:=kGrp) (F':=FU p (.tup [kGrp,.int ((m+1:Nat):Int),v]) (some kGrp) none none) (by kernel_rfl) (ys_else (zW (by kernel_rfl)) (ys_else (zW (by kernel_rfl)) (ys_then (zW (by kernel_rfl)) (zG (yx_expr (v := .none) (ye_own (j:=14) (zW rfl) (fun H h=>q_inst h) (fun q=>nomatch q) rfl (wW (vs:=[.int ((m+1:Nat):Int),v]) (by kernel_rfl))
    (ZJ (f:=f_PatternCode_put_group) (fl := .next) (F:=[some (.obj p),some (.int ((m+1:Nat):Int)),some v]) rfl rfl (ZV (zW (by kernel_rfl)) (zG (x_emit (K:=K) (Nat.lt_of_le_of_lt (Nat.le_add_right _ _) hl) (zW rfl)) (zG b (zG c ZY)))))) rfl) ZY))))
theorem put_look {o:Bool}(h:Put v sz nl cd (K+1))(hc:∀ pc l,(cd pc l).length=sz):Put (.tup [JX,.bool o,v]) (sz+2) nl (fun pc l => .tup [.int 9,.bool o,.int ((pc+(sz+2):Nat):Int)]::(cd (pc+1) l++[.tup [.int 15]])) (K+2):=fun p L l xs O hl=>by
  have e1:=len1 (xs:=xs) (v:=AV.none)
  have b:=x_put h (p:=p) (L:=L) (l:=l) (xs:=xs++[AV.none]) (O:=O) (F:=(FU p (.tup [JX,.bool o,v]) (some JX) none (some (.int xs.length))).tail) (e:=zA (zQ 1) (zX 2)) (by rw[e1];exact w1 hl) (zW (by kernel_rfl))
  rw[e1] at b
  have hz:(xs++[AV.none]++cd (xs.length+1) l++[AV.tup [.int 15]]).length=xs.length+(sz+2):=by rw[List.length_append,len_mid (hc _ _)];exact Nat.add_right_comm xs.length 1 (sz+1)
  have c:=x_emit (p:=p) (L:=L) (l:=l+nl) (xs:=xs++[AV.none]++cd (xs.length+1) l) (O:=O) (K:=K) (F:=(FU p (.tup [JX,.bool o,v]) (some JX) none (some (.int xs.length))).tail) (e:=jC [(zB 31)]) (v := .tup [.int 15]) (by rw[len_mid (hc _ _)];exact w1 hl) (zW rfl)
  have g:=q_len (p:=p) (L:=L) (l:=l+nl) (O:=O) (K:=K+1) (F:=(FU p (.tup [JX,.bool o,v]) (some JX) none (some (.int xs.length))).tail) (xs:=xs++[AV.none]++cd (xs.length+1) l++[AV.tup [.int 15]]) (by rw[hz];exact Nat.le_of_lt hl)
  have s:=x_seti (k:=zQ 4) (i:=xs.length) (by rw[hz];exact Nat.lt_add_of_pos_right (Nat.succ_pos _)) (by rw[hz];exact Nat.le_of_lt hl) (ye_tup (zY (e:=zB 25) (v := .int 9) (zW rfl) (zY (e:=zA (zQ 1) (zX 1)) (v := .bool o) (zW (by kernel_rfl)) (zY g jF)))) rfl
  rw[hz,show(xs++[AV.none]++cd (xs.length+1) l++[AV.tup [.int 15]]).set xs.length (.tup [.int 9,.bool o,.int ((xs.length+(sz+2):Nat):Int)])=xs++AV.tup [.int 9,.bool o,.int ((xs.length+(sz+2):Nat):Int)]::(cd (xs.length+1) l++[AV.tup [.int 15]]) from by rw[List.append_assoc (xs++[AV.none]),set_mid,List.append_assoc];rfl] at s
  exact put_top (k:=JX) (F':=FU p (.tup [JX,.bool o,v]) (some JX) none (some (.int xs.length))) (by kernel_rfl) (ys_else (zW (by kernel_rfl)) (ys_else (zW (by kernel_rfl)) (ys_else (zW (by kernel_rfl)) (ys_then (zW (by kernel_rfl))
    (zG (F1:=FU p (.tup [JX,.bool o,v]) (some JX) none (some (.int xs.length))) (jK (e_emit (K:=K) (Nat.lt_of_le_of_lt (Nat.le_add_right _ _) hl) (zW rfl)) (by show 4<5;decide)) (zG b (zG c (zG s ZY))))))))
end
end
section
set_option backward.match.sparseCases false
open PySem
theorem Pcs.less {p L l:Nat}{xs:List AV}{q:Nat×AObj}{O:List (Nat×AObj)}{H:AH}(h:Pcs p L l xs (q::O) H):Pcs p L l xs O H:=⟨h.inst,h.list,fun r hr=>h.oth r (.tail _ hr)⟩
noncomputable abbrev FE (p E:Nat)(ts:AV)(t a:Option AV):AF:=[some (.obj p),some ts,some (.obj E),t,a]
section
variable {p L l K sz nl sz2 nl2 E:Nat}{xs ys:List AV}{O:List (Nat×AObj)}{v v2 w k:AV}{F:AF}{e:XE}{F':AF}{P Q:HP}{cd cd2:Nat→Nat→List AV}
theorem getLt {H:AH}{i:Nat}{o:AObj}(h:H[i]? = some o):i<H.length:=(List.getElem?_eq_some_iff.mp h).1
theorem x_new (F:AF)(hF:2<F.length):Yx K F (zU (zC 2 false) (n_lst true [])) (fun H=>Pcs p L l xs O H∧H.length=E) (F.set 2 (some (.obj E))) (Pcs p L l xs ((E,.list [])::O)):=fun n hn H q=>by
  obtain⟨h,rfl⟩:=q
  have lt:∀ {i:Nat} {o:AObj},H[i]? = some o→(H++[AObj.list []])[i]? = some o:=fun h=>by rw[List.getElem?_append_left (getLt h)];exact h
  refine⟨H++[.list []],?_,lt h.inst,lt h.list,fun q hq=>?_⟩
  · show zZ (fun H:AH=>some (AV.obj H.length,H++[AObj.list []])) (fun v=>zZ ((zC 2 false).st GlT (ac n) v F) fun F'=>zH (Flo.next,F')) H=_
    rw[wV (x:=AV.obj H.length) (H1:=H++[AObj.list []]) rfl]
    show zZ (zZ (jW (aif ((2<F.length&&(!false||(nth F 2).isNone))=true) ())) fun q_=>zH (setN F 2 (some (AV.obj H.length)))) (fun F'=>zH (Flo.next,F')) _=_
    rw[wV (m:=zZ (jW _) _) (x:=F.set 2 (some (AV.obj H.length))) (H1:=H++[AObj.list []])]
    · rfl
    · rw[setN_eq,opt_eq (x:=()) (ZG (by rw[decide_eq_true hF];rfl))];rfl
  · rcases List.mem_cons.mp hq with rfl | hq
    · exact⟨by rw[List.getElem?_append_right (Nat.le_refl _),Nat.sub_self];rfl,fun e=>absurd (getLt h.list) (by rw[←e];exact Nat.lt_irrefl _),fun e=>absurd (getLt h.inst) (by rw[←e];exact Nat.lt_irrefl _)⟩
    · exact⟨lt (h.oth q hq).1,(h.oth q hq).2⟩
theorem Pcs.app {ys zs:List AV}{H:AH}(h:Pcs p L l xs ((E,.list ys)::O) H)(hE:∀ q∈O,q.1≠E):Pcs p L l xs ((E,.list zs)::O) (H.set E (.list zs)):=by
  have hEp:E≠p:=(h.oth _ (.head _)).2.2
  refine⟨by rw[List.getElem?_set_ne hEp];exact h.inst,by rw[List.getElem?_set_ne (h.oth _ (.head _)).2.1];exact h.list,fun q hq=>?_⟩
  rcases List.mem_cons.mp hq with rfl | hq
  · exact⟨List.getElem?_set_self (getLt (h.oth _ (.head _)).1),(h.oth _ (.head _)).2⟩
  · exact⟨by rw[List.getElem?_set_ne (hE q hq).symm];exact(h.oth q (.tail _ hq)).1,(h.oth q (.tail _ hq)).2⟩
noncomputable abbrev chB:List XS:=[(zU (zC 4 false) (ZK (zQ 0) 0 [jV])),
    (ZX (ZK (zQ 0) 1 [(zQ 3)])),
    (ZX (n_meth (zQ 2) Me.append [(ZK (zQ 0) 0 [jV])])),
    (zU (t_sub (jU (zQ 0) Fld.steps) (zQ 4)) (jC [(zB 26),(jZ Op2.add (zQ 4) (zX 1)),(zK (zB 39) [(jU (zQ 0) Fld.steps)])]))]
noncomputable abbrev chJ:List XS:=[(zU (t_sub (jU (zQ 0) Fld.steps) (zQ 4)) (jC [(zB 27),(zK (zB 39) [(jU (zQ 0) Fld.steps)])]))]
noncomputable abbrev splA (n sz:Nat):AV := .tup [.int 10,.int ((n+1:Nat):Int),.int ((n+1+sz+1:Nat):Int)]
theorem ch_one (h:Put v sz nl cd (K+1))(hc:∀ pc l,(cd pc l).length=sz)(hl:xs.length+(sz+2)<line)(hE:∀ q∈O,q.1≠E){ts:AV}:Ys (K+1) (FE p E ts (some v) none) chB (Pcs p L l xs ((E,.list [])::O)) .next (FE p E ts (some v) (some (.int xs.length))) (Pcs p L (l+nl) (xs++splA xs.length sz::(cd (xs.length+1) l++[AV.none])) ((E,.list [.int ((xs.length+1+sz:Nat):Int)])::O)):=by
  have e1:=len1 (xs:=xs) (v:=AV.none)
  have b:=x_put h (p:=p) (L:=L) (l:=l) (xs:=xs++[AV.none]) (O:=(E,.list [])::O) (F:=(FE p E ts (some v) (some (.int xs.length))).tail) (e:=zQ 3) (by rw[e1];exact w1 hl) (zW rfl)
  rw[e1] at b
  have lm:=len_mid (xs:=xs) (a:=AV.none) (hc (xs.length+1) l)
  have c:=e_emit (p:=p) (L:=L) (l:=l+nl) (xs:=xs++[AV.none]++cd (xs.length+1) l) (O:=(E,.list [])::O) (K:=K) (F:=(FE p E ts (some v) (some (.int xs.length))).tail) (e:=jV) (v := .none) (by rw[lm];exact w1 hl) (zW rfl)
  rw[lm] at c
  have hz:(xs++[AV.none]++cd (xs.length+1) l++[AV.none]).length=xs.length+1+sz+1:=by rw[List.length_append,lm];rfl
  have a:Yx (K+1) (FE p E ts (some v) (some (.int xs.length))) (ZX (n_meth (zQ 2) Me.append [(ZK (zQ 0) 0 [jV])])) (Pcs p L (l+nl) (xs++[AV.none]++cd (xs.length+1) l) ((E,.list [])::O)) (FE p E ts (some v) (some (.int xs.length))) (Pcs p L (l+nl) (xs++[AV.none]++cd (xs.length+1) l++[AV.none]) ((E,.list [.int ((xs.length+1+sz:Nat):Int)])::O)) :=
    yx_expr (v := .none) (ye_meth ⟨rfl,rfl⟩ (n:=E) (zW rfl) (fun H h=>⟨_,(h.oth _ (.head _)).1⟩) (zY c jF) (y_app fun H h=>⟨[],(h.oth _ (.head _)).1,(by show 0<line;decide),h.app hE⟩)) rfl
  have g:=q_len (p:=p) (L:=L) (l:=l+nl) (O:=(E,.list [.int ((xs.length+1+sz:Nat):Int)])::O) (K:=K+1) (F:=(FE p E ts (some v) (some (.int xs.length))).tail) (xs:=xs++[AV.none]++cd (xs.length+1) l++[AV.none]) (by rw[hz];exact w1 hl)
  have s:=x_seti (k:=zQ 4) (i:=xs.length) (by rw[hz];exact Nat.lt_succ_of_le (Nat.le_trans (Nat.le_succ _) (Nat.le_add_right _ _))) (by rw[hz];exact w1 hl) (ye_tup (zY (e:=zB 26) (v := .int 10) (zW rfl) (zY (e:=jZ Op2.add (zQ 4) (zX 1)) (v := .int ((xs.length+1:Nat):Int)) (zW rfl) (zY g jF)))) rfl
  rw[hz,show(xs++[AV.none]++cd (xs.length+1) l++[AV.none]).set xs.length (splA xs.length sz)=xs++splA xs.length sz::(cd (xs.length+1) l++[AV.none]) from by rw[List.append_assoc (xs++[AV.none]),set_mid,List.append_assoc];rfl] at s
  exact zG (F1:=FE p E ts (some v) (some (.int xs.length))) (jK (e_emit (K:=K) (Nat.lt_of_le_of_lt (Nat.le_add_right _ _) hl) (zW rfl)) (by show 4<5;decide)) (zG b (zG a (zG s ZY)))
end
end
section
set_option backward.match.sparseCases false
open PySem
set_option tactic.hygienic true in
theorem aforL_one {E W:Nat}{f:AV→AF→AM (Flo×AF)}{F F1:AF}{x:AV}{P Q:HP}(hW:2≤W)(h1:∀ H,P H→H[E]? = some (.list [x]))(h:Yl (f x F) P (.next,F1) Q)(h2:∀ H,Q H→H[E]? = some (.list [x])):Yl (aforL E f W 0 F) P (.next,F1) Q:=by
  obtain⟨m,_,rfl⟩:=wC hW
  rename_i hm
  obtain⟨m,_,rfl⟩:=wC hm
  refine zV (f:=fun q:Nat×List AV=>match q.2[0]? with
    | some x=>zZ (f x F) fun p=>ZU (aforL E f (m+1) 1) p
    | none=>zH (.next,F)) (v:=(E,[x])) (Q:=P) (fun H p=>⟨H,zalist (h1 H p),p⟩) ?_
  exact zV (f:=fun p=>ZU (aforL E f (m+1) 1) p) h (zV (f:=fun q:Nat×List AV=>match q.2[1]? with
    | some x=>zZ (f x F1) fun p=>ZU (aforL E f m 2) p
    | none=>zH (.next,F1)) (v:=(E,[x])) (Q:=Q) (fun H p=>⟨H,zalist (h2 H p),p⟩) wQ)
theorem set_alt {α:Type}{xs c c2:List α}{s n v:α}{k:Nat}(hA:(xs++s::c).length=k):(xs++s::(c++[n])++c2).set k v=xs++s::(c++v::c2):=by
  subst hA
  rw[show xs++s::(c++[n])=xs++s::c++[n] from by rw[List.append_assoc];rfl,set_mid,List.append_assoc,List.append_assoc];rfl
theorem forL_ex {G:Glo}{call:Orc}{W:Nat}{F:AF}{t:XT}{e:XE}{a:List XS}:(s_forL t e a).ex G call W F=zZ (e.ev G call F) fun v=>zZ (jW (toObj v)) fun n=>aforL n (fun x F=>zZ (t.st G call x F) fun F'=>exs G call W a F') W 0 F:=rfl
section
variable {p L l K sz nl sz2 nl2 E:Nat}{xs ys:List AV}{O:List (Nat×AObj)}{v v2 w k:AV}{F:AF}{e:XE}{F':AF}{P Q:HP}{cd cd2:Nat→Nat→List AV}
noncomputable abbrev jmpA (n sz sz2:Nat):AV := .tup [.int 11,.int ((n+(sz+sz2+2):Nat):Int)]
noncomputable abbrev altC (sz sz2 nl:Nat)(cd cd2:Nat→Nat→List AV)(pc l:Nat):List AV:=splA pc sz::(cd (pc+1) l++jmpA pc sz sz2::cd2 (pc+1+sz+1) (l+nl))
theorem c_choice (h:Put v sz nl cd (K+1))(h2:Put v2 sz2 nl2 cd2 (K+1))(hc:∀ pc l,(cd pc l).length=sz)(hc2:∀ pc l,(cd2 pc l).length=sz2)(hl:xs.length+(sz+sz2+2)<line):Yc (K+2) (.fn 13) [.obj p,.tup [v,v2]] (Pcs p L l xs O) .none (Pcs p L (l+(nl+nl2)) (xs++altC sz sz2 nl cd cd2 xs.length l) O):=fun n hn H q=>by
  have hE:∀ r∈O,r.1≠H.length:=fun r hr=>Nat.ne_of_lt (getLt (q.oth r hr).1)
  have hz:(xs++splA xs.length sz::(cd (xs.length+1) l++[AV.none])).length=xs.length+1+sz+1:=by rw[List.length_append,List.length_cons,List.length_append,hc];exact(Nat.add_right_comm xs.length 1 (sz+1)).symm
  have b:=x_put h2 (p:=p) (L:=L) (l:=l+nl) (xs:=xs++splA xs.length sz::(cd (xs.length+1) l++[AV.none])) (O:=(H.length,.list [.int ((xs.length+1+sz:Nat):Int)])::O) (F:=(FE p H.length (.tup [v,v2]) (some v) (some (.int xs.length))).tail) (e:=zA (zQ 1) (n_neg (zX 1))) (by rw[hz,ez_];exact hl) (zW (by kernel_rfl))
  have hz2:(xs++splA xs.length sz::(cd (xs.length+1) l++[AV.none])++cd2 (xs.length+1+sz+1) (l+nl)).length=xs.length+(sz+sz2+2):=by rw[List.length_append,hz,hc2,ez_]
  rw[hz,Nat.add_assoc l] at b
  have g:=q_len (p:=p) (L:=L) (l:=l+(nl+nl2)) (O:=(H.length,.list [.int ((xs.length+1+sz:Nat):Int)])::O) (K:=K+1) (F:=(FE p H.length (.tup [v,v2]) (some v) (some (.int ((xs.length+1+sz:Nat):Int)))).tail) (xs:=xs++splA xs.length sz::(cd (xs.length+1) l++[AV.none])++cd2 (xs.length+1+sz+1) (l+nl)) (by rw[hz2];exact Nat.le_of_lt hl)
  have s:=x_seti (k:=zQ 4) (i:=xs.length+1+sz) (by rw[hz2,←ez_];exact Nat.lt_of_lt_of_le (Nat.lt_succ_self _) (Nat.le_add_right _ _)) (by rw[hz2];exact Nat.le_of_lt hl) (ye_tup (zY (e:=zB 27) (v := .int 11) (zW rfl) (zY g jF))) rfl
  rw[hz2,show(xs++splA xs.length sz::(cd (xs.length+1) l++[AV.none])++cd2 (xs.length+1+sz+1) (l+nl)).set (xs.length+1+sz) (jmpA xs.length sz sz2)=xs++altC sz sz2 nl cd cd2 xs.length l from set_alt (by rw[List.length_append,List.length_cons,hc];exact(Nat.add_right_comm xs.length 1 sz).symm)] at s
  have hW:2≤jG:=Nat.le_of_ble_eq_true rfl
  have fl:Yx (K+1) (FE p H.length (.tup [v,v2]) (some v) (some (.int xs.length))) (s_forL (zC 4 false) (zQ 2) chJ) (Pcs p L (l+(nl+nl2)) (xs++splA xs.length sz::(cd (xs.length+1) l++[AV.none])++cd2 (xs.length+1+sz+1) (l+nl)) ((H.length,.list [.int ((xs.length+1+sz:Nat):Int)])::O)) (FE p H.length (.tup [v,v2]) (some v) (some (.int ((xs.length+1+sz:Nat):Int)))) (Pcs p L (l+(nl+nl2)) (xs++altC sz sz2 nl cd cd2 xs.length l) ((H.length,.list [.int ((xs.length+1+sz:Nat):Int)])::O)):=fun n hn=>by
    rw[forL_ex]
    exact zV (f:=fun v=>zZ (jW (toObj v)) fun k=>aforL k (fun x F=>zZ ((zC 4 false).st GlT (ac n) x F) fun F'=>exs GlT (ac n) jG chJ F') jG 0 _) (v := .obj H.length) (wD fun H=>rfl) (zV (f:=fun k=>aforL k (fun x F=>zZ ((zC 4 false).st GlT (ac n) x F) fun F'=>exs GlT (ac n) jG chJ F') jG 0 _) (v:=H.length) (y_opt rfl)
      (aforL_one hW (fun H h=>(h.oth _ (.head _)).1) (zV (f:=fun F'=>exs GlT (ac n) jG chJ F') (v:=FE p H.length (.tup [v,v2]) (some v) (some (.int ((xs.length+1+sz:Nat):Int)))) (wD fun H=>rfl) (zG s ZY n hn)) fun H h=>(h.oth _ (.head _)).1))
  have all:Yc (K+2) (.fn 13) [.obj p,.tup [v,v2]] (fun H'=>Pcs p L l xs O H'∧H'.length=H.length) .none (Pcs p L (l+(nl+nl2)) (xs++altC sz sz2 nl cd cd2 xs.length l) ((H.length,.list [.int ((xs.length+1+sz:Nat):Int)])::O)) :=
    ZJ (f:=f_PatternCode_put_choice) (fl := .next) (F:=[some (.obj p),some (.tup [v,v2]),none,none,none]) rfl rfl (zG (x_new _ (by show 2<5;decide)) (zG (F1:=FE p H.length (.tup [v,v2]) (some v) (some (.int xs.length))) (yx_for (xs:=[v]) (fun n=>wD fun H=>by kernel_rfl) fun n hn =>
      zV (f:=fun p=>ZU (afor (fun x F=>zZ ((zC 3 false).st GlT (ac n) x F) fun F'=>exs GlT (ac n) jG chB F') []) p) (v:=(Flo.next,FE p H.length (.tup [v,v2]) (some v) (some (.int xs.length))))
        (zV (f:=fun F'=>exs GlT (ac n) jG chB F') (v:=FE p H.length (.tup [v,v2]) (some v) none) (wD fun H=>by kernel_rfl) (ch_one h hc (Nat.lt_of_le_of_lt (Nat.add_le_add_left (Nat.add_le_add_right (Nat.le_add_right sz sz2) 2) _) hl) hE n hn)) wQ) (zG b (zG fl ZY))))
  exact y_post (all n hn) (fun H h=>h.less) H ⟨q,rfl⟩
theorem put_alt (h:Put v sz nl cd (K+1))(h2:Put v2 sz2 nl2 cd2 (K+1))(hc:∀ pc l,(cd pc l).length=sz)(hc2:∀ pc l,(cd2 pc l).length=sz2):Put (.tup [kAlt,.tup [v,v2]]) (sz+sz2+2) (nl+nl2) (altC sz sz2 nl cd cd2) (K+3):=fun p L l xs O hl =>
  put_top (k:=kAlt) (F':=FU p (.tup [kAlt,.tup [v,v2]]) (some kAlt) none none) (by kernel_rfl) (ys_then (zW (by kernel_rfl)) (zG (yx_expr (v := .none) (ye_own (j:=13) (zW rfl) (fun H h=>q_inst h) (fun q=>nomatch q) rfl (wW (vs:=[.tup [v,v2]]) (by kernel_rfl)) (c_choice h h2 hc hc2 hl)) rfl) ZY))
noncomputable abbrev FRp (p:Nat)(T ls ms lz t f l:AV)(lo hd:Option AV):AF:=[some (.obj p),some T,some ls,some ms,some lz,some t,some f,some l,lo,hd]
noncomputable abbrev repC (sz least:Nat)(most:Option Nat)(lz:Bool)(m n:Nat)(cd:Nat→Nat→List AV)(pc l:Nat):List AV := .tup [.int 12,.int l]::iHed l least most lz (m+1) (n+1) (pc+(sz+3))::(cd (pc+2) (l+1)++[iTal l least (pc+1)])
theorem x_loops:Yx K (some (.obj p)::F) (s_augA (zQ 0) .loops Op2.add (zX 1)) (Pcs p L l xs O) (some (.obj p)::F) (Pcs p L (l+1) xs O):=fun n hn H h=>by
  refine⟨H.set p (.inst .pcode (pF L (l+1))),?_,List.getElem?_set_self (getLt h.inst),by rw[List.getElem?_set_ne h.ne];exact h.list,fun q hq=>⟨?_,(h.oth q hq).2⟩⟩
  · show zZ (agetA (.obj p) .loops) (fun v=>zZ (zH (AV.int 1)) fun y=>zZ (jW (abin .add v y)) fun z=>zZ (jW (wY z)) fun k=>zZ (asetA (.obj p) .loops (.int k)) fun q_=>zH (Flo.next,some (AV.obj p)::F)) H=_
    obtain⟨H1,e1,rfl⟩:=y_get (f:=Fld.loops) (v := .int (l:Nat)) (P:=fun H'=>H'=H) (fun H' e=>⟨.pcode,pF L l,e.symm▸h.inst,(fun q=>nomatch q),rfl⟩) H rfl
    rw[wV e1]
    show zZ (zZ (ainst (.obj p)) fun p=>aputI p.1 p.2.1 fun g=>if g = .loops then some (.int ((l+1:Nat):Int)) else p.2.2 g) (fun q_=>zH (Flo.next,some (AV.obj p)::F)) H1=_
    rw[wV (m:=zZ (ainst (.obj p)) _) (x:=()) (H1:=H1.set p (.inst .pcode (pF L (l+1))))]
    · rfl
    · rw[wV (zinst h.inst (fun q=>nomatch q))]
      show some ((),H1.set p (.inst .pcode fun g=>if g=Fld.loops then some (AV.int ((l+1:Nat):Int)) else pF L l g))=_
      rw[pF_loops]
  · rw[List.getElem?_set_ne (h.oth q hq).2.2.symm];exact(h.oth q hq).1
end
end
section
set_option backward.match.sparseCases false
open PySem
theorem w4 {x s L:Nat}(h:x+(s+3)<L):x+2+s<L:=Nat.lt_of_le_of_lt (Nat.le_trans (Nat.le_of_eq (Nat.add_right_comm x 2 s)) (Nat.le_succ _)) h
theorem set_two {α:Type}{xs c:List α}{a n v:α}:(xs++[a]++[n]++c).set (xs.length+1) v=xs++a::v::c:=by
  have e:(xs++[a]).length=xs.length+1:=List.length_append
  rw[←e,set_mid,List.append_assoc,List.append_assoc];rfl
section
variable {p L l K sz nl:Nat}{xs:List AV}{O:List (Nat×AObj)}{v:AV}{cd:Nat→Nat→List AV}{least m n:Nat}{most:Option Nat}{lz:Bool}
theorem c_rep (h:Put v sz nl cd (K+1))(hc:∀ pc l,(cd pc l).length=sz)(hl:xs.length+(sz+3)<line):Yc (K+2) (.fn 15) [.obj p,repT least most lz v (m+1) (n+1)] (Pcs p L l xs O) .none (Pcs p L (l+(1+nl)) (xs++repC sz least most lz m n cd xs.length l) O):=by
  let F9:Option AV→Option AV→AF:=FRp p (repT least most lz v (m+1) (n+1)) (.int least) (mostA most) (.bool lz) v (.int ((m+1:Nat):Int)) (.int ((n+1:Nat):Int))
  have e1:=len1 (xs:=xs) (v := .tup [.int 12,.int l])
  have e2:(xs++[AV.tup [.int 12,.int l]]++[AV.none]).length=xs.length+2:=by rw[List.length_append,e1];rfl
  have s4:=x_emit (p:=p) (L:=L) (l:=l+1) (xs:=xs) (O:=O) (K:=K) (F:=(F9 (some (.int l)) none).tail) (e:=jC [(zB 28),(zQ 8)]) (v := .tup [.int 12,.int l]) (Nat.lt_of_le_of_lt (Nat.le_add_right _ _) hl) (zW rfl)
  have s5:=e_emit (p:=p) (L:=L) (l:=l+1) (xs:=xs++[AV.tup [.int 12,.int l]]) (O:=O) (K:=K) (F:=(F9 (some (.int l)) none).tail) (e:=jV) (v := .none) (by rw[e1];exact Nat.lt_of_le_of_lt (Nat.add_le_add_left (Nat.le_add_left 1 (sz+2)) _) hl) (zW rfl)
  rw[e1] at s5
  have s6:=x_put h (p:=p) (L:=L) (l:=l+1) (xs:=xs++[AV.tup [.int 12,.int l]]++[AV.none]) (O:=O) (F:=(F9 (some (.int l)) (some (.int ((xs.length+1:Nat):Int)))).tail) (e:=zQ 5) (by rw[e2];exact w4 hl) (zW rfl)
  rw[e2,Nat.add_assoc l] at s6
  have e3:(xs++[AV.tup [.int 12,.int l]]++[AV.none]++cd (xs.length+2) (l+1)).length=xs.length+2+sz:=by rw[List.length_append,e2,hc]
  have s7:=x_emit (p:=p) (L:=L) (l:=l+(1+nl)) (xs:=xs++[AV.tup [.int 12,.int l]]++[AV.none]++cd (xs.length+2) (l+1)) (O:=O) (K:=K) (F:=(F9 (some (.int l)) (some (.int ((xs.length+1:Nat):Int)))).tail) (e:=jC [(zB 30),(zQ 8),(zQ 2),(zQ 9)]) (v:=iTal l least (xs.length+1)) (by rw[e3];exact w4 hl) (zW rfl)
  have e4:(xs++[AV.tup [.int 12,.int l]]++[AV.none]++cd (xs.length+2) (l+1)++[iTal l least (xs.length+1)]).length=xs.length+(sz+3):=by rw[List.length_append,e3];exact congrArg (· + 1) (Nat.add_right_comm _ 2 sz)
  have g:=q_len (p:=p) (L:=L) (l:=l+(1+nl)) (O:=O) (K:=K+1) (F:=(F9 (some (.int l)) (some (.int ((xs.length+1:Nat):Int)))).tail) (xs:=xs++[AV.tup [.int 12,.int l]]++[AV.none]++cd (xs.length+2) (l+1)++[iTal l least (xs.length+1)]) (by rw[e4];exact Nat.le_of_lt hl)
  have s8:=x_seti (k:=zQ 9) (i:=xs.length+1) (by rw[e4];exact Nat.add_lt_add_left (Nat.succ_lt_succ (Nat.succ_pos _)) _) (by rw[e4];exact Nat.le_of_lt hl) (ye_tup (zY (e:=zB 29) (v := .int 13) (zW rfl) (zY (e:=zQ 8) (v := .int l) (zW rfl) (zY (e:=zQ 2) (v := .int least) (zW rfl) (zY (e:=zQ 3) (v:=mostA most) (zW rfl) (zY (e:=zQ 4) (v := .bool lz) (zW rfl)
    (zY (e:=zQ 6) (v := .int ((m+1:Nat):Int)) (zW rfl) (zY (e:=zQ 7) (v := .int ((n+1:Nat):Int)) (zW rfl) (zY g jF))))))))) rfl
  rw[e4,List.append_assoc (xs++[AV.tup [.int 12,.int l]]++[AV.none]),set_two] at s8
  rw[List.append_assoc (xs++[AV.tup [.int 12,.int l]]++[AV.none])] at s7
  exact ZJ (f:=f_PatternCode_put_repeat) (fl := .next) (F':=F9 (some (.int l)) (some (.int ((xs.length+1:Nat):Int)))) (F:=[some (.obj p),some (repT least most lz v (m+1) (n+1)),none,none,none,none,none,none,none,none]) rfl rfl
    (wU 1 (F1:=F9 none none) (by kernel_rfl) (zG (F1:=F9 (some (.int l)) none) (jK q_loops (by show 8<10;decide)) (zG x_loops (zG s4 (zG (F1:=F9 (some (.int l)) (some (.int ((xs.length+1:Nat):Int)))) (jK s5 (by show 9<10;decide)) (zG s6 (zG s7 (zG s8 ZY))))))))
theorem put_rep (h:Put v sz nl cd (K+1))(hc:∀ pc l,(cd pc l).length=sz):Put (repT least most lz v (m+1) (n+1)) (sz+3) (1+nl) (repC sz least most lz m n cd) (K+3):=fun p L l xs O hl =>
  put_top (k:=kRep) (F':=FU p (repT least most lz v (m+1) (n+1)) (some kRep) none none) (by kernel_rfl) (ys_else (zW (by kernel_rfl)) (ys_else (zW (by kernel_rfl)) (ys_else (zW (by kernel_rfl)) (ys_else (zW (by kernel_rfl)) (ys_then (zW (by kernel_rfl))
    (zG (yx_expr (v := .none) (ye_own (j:=15) (zW rfl) (fun H h=>q_inst h) (fun q=>nomatch q) rfl (wW (vs:=[repT least most lz v (m+1) (n+1)]) rfl) (c_rep h hc hl)) rfl) ZY))))))
end
noncomputable def New (P:HP)(p:Nat)(c:Cls):HP:=fun H=>∃ H0,P H0∧H0.length=p∧H=H0++[.inst c fun q_=>none]
theorem yc_cls {K p k:Nat}{c:Cls}{xs:List AV}{P Q:HP}(hk:GlT.ini c=some k)(h:Yc K (.fn k) (.obj p::iniArgs c xs) (New P p c) .none Q):Yc (K+1) (.cls c) xs (fun H=>P H∧H.length=p) (.obj p) Q:=fun n hn=>by
  obtain⟨m,hm,rfl⟩:=wC hn
  exact zV (f:=fun k=>zZ (anewI c) fun o=>zZ (ac m (.fn k) (o::iniArgs c xs)) fun z=>zZ (jW (aif (z.isNone=true) ())) fun q_=>zH o) (y_opt hk)
    (zV (f:=fun o=>zZ (ac m (.fn k) (o::iniArgs c xs)) fun z=>zZ (jW (aif (z.isNone=true) ())) fun q_=>zH o) (v := .obj p) (Q:=New P p c) (fun H q=>⟨_,by rw[←q.2];rfl,H,q.1,q.2,rfl⟩)
      (zV (f:=fun z=>zZ (jW (aif (z.isNone=true) ())) fun q_=>zH (AV.obj p)) (h m hm) (zV (f:=fun q_=>zH (AV.obj p)) (y_aif rfl) wQ)))
theorem ye_cls {K:Nat}{F:AF}{P Q R:HP}{a:XE}{es:List XE}{c:Cls}{xs:List AV}{z:AV}(hf:E0 a F=V0 (.cls c))(hc:¬(c = .limits∧xs≠[]))(h:Yv K F es P xs Q)(k:Yc K (.cls c) xs Q z R):Ye K F (zK a es) P z R:=fun n hn =>
  zV (f:=fun x=>zZ (evs GlT (ac n) F es) fun xs=>acallB (ac n) x xs) (wD (r0 hf n)) (zV (f:=fun xs=>acallB (ac n) (.cls c) xs) (h n hn) (by
    show Yl (if c = .limits∧xs≠[] then afail else ac n (.cls c) xs) Q z R
    rw[if_neg hc];exact k n hn))
end
section
set_option backward.match.sparseCases false
open PySem
noncomputable def NewF (P:HP)(p:Nat)(c:Cls)(fs:Fld→Option AV):HP:=fun H=>∃ H0,P H0∧H0.length=p∧H=H0++[.inst c fs]
noncomputable abbrev updF (fs:Fld→Option AV)(f:Fld)(v:AV):Fld→Option AV:=fun g=>if g=f then some v else fs g
section
variable {K p L:Nat}{F:AF}{P:HP}{c:Cls}{fs:Fld→Option AV}{f:Fld}{e:XE}{v:AV}
theorem new_set {H:AH}{o:AObj}(h:NewF P p c fs H):∃ H0,P H0∧H0.length=p∧H.set p o=H0++[o]∧H=H0++[.inst c fs]:=by
  obtain⟨H0,h1,rfl,rfl⟩:=h
  exact⟨H0,h1,rfl,by rw[List.set_append_right _ _ (Nat.le_refl _),Nat.sub_self];rfl,rfl⟩
theorem newF_get {H:AH}(h:NewF P p c fs H):H[p]? = some (.inst c fs):=by
  obtain⟨H0,_,rfl,rfl⟩:=h
  rw[List.getElem?_append_right (Nat.le_refl _),Nat.sub_self];rfl
theorem x_at (hc:c ≠ .fail)(he:Ye K (some (.obj p)::F) e (NewF P p c fs) v (NewF P p c fs)):Yx K (some (.obj p)::F) (zU (t_attr (zQ 0) f) e) (NewF P p c fs) (some (.obj p)::F) (NewF P p c (updF fs f v)) :=
  yx_seta he (zW rfl) fun H h=>⟨c,fs,newF_get h,hc,by
    refine via fun R_ k_=>?_
    obtain⟨H0,h1,h2,h3,_⟩:=new_set (o := .inst c (updF fs f v)) h
    refine k_ ?_
    exact⟨H0,h1,h2,h3⟩⟩
theorem x_atL (hc:c ≠ .fail):Yx K (some (.obj p)::F) (zU (t_attr (zQ 0) f) (n_lst true [])) (NewF P p c fs) (some (.obj p)::F) (fun H=>∃ H0,P H0∧H0.length=p∧H=H0++[.inst c (updF fs f (.obj (p+1))),.list []]) :=
  yx_seta (v := .obj (p+1)) (Q:=fun H=>∃ H0,P H0∧H0.length=p∧H=H0++[.inst c fs,.list []]) (fun n hn H h=>by
    obtain⟨H0,h1,rfl,rfl⟩:=h
    refine⟨H0++[.inst c fs]++[.list []],?_,H0,h1,rfl,by rw[List.append_assoc];rfl⟩
    show some (AV.obj (H0++[AObj.inst c fs]).length,H0++[AObj.inst c fs]++[AObj.list []])=_
    rw[List.length_append];rfl) (zW rfl) fun H h=>by
    obtain⟨H0,h1,rfl,rfl⟩:=h
    refine⟨c,fs,by rw[List.getElem?_append_right (Nat.le_refl _),Nat.sub_self];rfl,hc,H0,h1,rfl,?_⟩
    rw[List.set_append_right _ _ (Nat.le_refl _),Nat.sub_self];rfl
end
section
variable {p s:Nat}{P:HP}{O:List (Nat×AObj)}
noncomputable def Has (O:List (Nat×AObj)):HP:=fun H=>∀ q∈O,H[q.1]? = some q.2
theorem pF_init {p:Nat}:updF (updF (fun q_=>none) .steps (.obj (p+1))) .loops (.int 0)=pF (p+1) 0:=funext fun g=>by cases g <;> rfl
theorem i_pcode:Yc 1 (.fn 9) [.obj p] (New (Has O) p .pcode) .none (Pcs p (p+1) 0 [] O) :=
  ZJ (f:=f_PatternCode_init) (fl := .next) (F:=[some (.obj p)]) rfl rfl (zG (Q:=_) (x_atL (P:=Has O) (c := .pcode) (fs:=fun q_=>none) (fun q=>nomatch q)) (zG (yx_seta (v := .int 0) (p:=p) (R:=Pcs p (p+1) 0 [] O) (zW rfl) (zW rfl) fun H h=>by
    obtain⟨H0,h1,rfl,rfl⟩:=h
    refine⟨.pcode,_,by rw[List.getElem?_append_right (Nat.le_refl _),Nat.sub_self];rfl,(fun q=>nomatch q),?_⟩
    rw[List.set_append_right _ _ (Nat.le_refl _),Nat.sub_self]
    refine⟨?_,?_,fun q hq=>⟨?_,fun e=>?_,fun e=>?_⟩⟩
    · rw[List.getElem?_append_right (Nat.le_refl _),Nat.sub_self]
      exact congrArg (fun f=>some (AObj.inst Cls.pcode f)) pF_init
    · rw[List.getElem?_append_right (show H0.length≤H0.length+1 from Nat.le_succ _),Nat.add_sub_cancel_left];rfl
    · rw[List.getElem?_append_left (getLt (h1 q hq))];exact h1 q hq
    · exact absurd (getLt (h1 q hq)) (by rw[e];exact Nat.not_lt.mpr (Nat.le_succ _))
    · exact absurd (getLt (h1 q hq)) (by rw[e];exact Nat.lt_irrefl _)) ZY))
noncomputable def lF:Fld→Option AV:=updF (updF (updF (updF (fun q_=>none) .depth (.int 40)) .frames (.int 200)) .steps (.int (10 ^ 9))) .text (.int (10 ^ 6))
theorem i_limits:Yc 1 (.fn 8) [.obj p,.int 40,.int 200,.int (10 ^ 9),.int (10 ^ 6)] (New P p .limits) .none (NewF P p .limits lF) :=
  ZJ (f:=f_Limits_init) (fl := .next) (F:=[some (.obj p),some (.int 40),some (.int 200),some (.int (10 ^ 9)),some (.int (10 ^ 6))]) rfl rfl (zG (x_at (P:=P) (fs:=fun q_=>none) (v := .int 40) (fun q=>nomatch q) (zW rfl)) (zG (x_at (v := .int 200) (fun q=>nomatch q) (zW rfl)) (zG (x_at (v := .int (10 ^ 9)) (fun q=>nomatch q) (zW rfl)) (zG (x_at (v := .int (10 ^ 6)) (fun q=>nomatch q) (zW rfl)) ZY))))
theorem sF_init {X:Cx}{sl wl:Nat}:updF (updF (updF (updF (updF (updF (fun q_=>none) .steps (.obj sl)) .text (.str X.cs)) .ic (.bool (icOf X.fl))) .ml (.bool (mlOf X.fl))) .left (.int ((10 ^ 9:Nat):Int))) .waiting (.obj wl)=sF X sl wl (10 ^ 9):=funext fun g=>by cases g <;> rfl
theorem i_search {X:Cx}{sl lim:Nat}(hP:∀ H,P H→H[sl]? = some (.list X.SL)∧∃ fs,H[lim]? = some (.inst .limits fs)∧fs .steps=some (.int ((10 ^ 9:Nat):Int))):Yc 1 (.fn 18) [.obj s,.obj sl,.str X.cs,.bool (icOf X.fl),.bool (mlOf X.fl),.obj lim] (New P s .search) .none (SI X s sl (10 ^ 9) []):=by
  refine ZJ (f:=f_Search_init) (fl := .next) (F':=[some (.obj s),some (.obj sl),some (.str X.cs),some (.bool (icOf X.fl)),some (.bool (mlOf X.fl)),some (.obj lim)]) (F:=[some (.obj s),some (.obj sl),some (.str X.cs),some (.bool (icOf X.fl)),some (.bool (mlOf X.fl)),some (.obj lim)]) rfl rfl
    (zG (x_at (P:=P) (fs:=fun q_=>none) (v := .obj sl) (fun q=>nomatch q) (zW rfl)) (zG (x_at (v := .str X.cs) (fun q=>nomatch q) (zW rfl)) (zG (x_at (v := .bool (icOf X.fl)) (fun q=>nomatch q) (zW rfl)) (zG (x_at (v := .bool (mlOf X.fl)) (fun q=>nomatch q) (zW rfl))
      (zG (x_at (v := .int ((10 ^ 9:Nat):Int)) (fun q=>nomatch q) (ye_attr (p:=lim) (zW rfl) fun H h=>?_)) (zG (fun n hn=>y_post (x_atL (K:=0) (c := .search) (P:=P) (fun q=>nomatch q) n (Nat.zero_le n)) fun H h=>?_) ZY))))))
  · obtain⟨H0,h1,rfl,rfl⟩:=h
    obtain⟨_,fs,e1,e2⟩:=hP H0 h1
    exact⟨.limits,fs,by rw[List.getElem?_append_left (getLt e1)];exact e1,(fun q=>nomatch q),e2⟩
  · obtain⟨H0,h1,rfl,rfl⟩:=h
    have e:=(hP H0 h1).1
    refine⟨H0.length+1,?_,?_,?_,fun q=>absurd (getLt e) (by rw[←q];exact Nat.not_lt.mpr (Nat.le_succ _))⟩
    · rw[List.getElem?_append_right (Nat.le_refl _),Nat.sub_self,←sF_init];rfl
    · rw[List.getElem?_append_right (show H0.length≤H0.length+1 from Nat.le_succ _),Nat.add_sub_cancel_left];rfl
    · rw[List.getElem?_append_left (getLt e)];exact e
end
end
section
set_option backward.match.sparseCases false
open PySem
theorem c_pcode {v:AV}{sz nl K p:Nat}{cd:Nat→Nat→List AV}{O:List (Nat×AObj)}(h:Put v sz nl cd K)(hK:2≤K)(hc:∀ pc l,(cd pc l).length=sz)(hl:sz+1<line):Yc (K+1) (.fn 16) [v] (fun H=>Has O H∧H.length=p) (.tup [.obj (p+1),.int nl]) (Pcs p (p+1) nl (cd 0 0++[.tup [.int 15]]) O):=by
  have hz:0+sz<line:=by rw[Nat.zero_add];exact Nat.lt_of_succ_lt hl
  have b:=h p (p+1) 0 [] O hz
  rw[Nat.zero_add] at b
  have c:Yc K (.fn 10) [.obj p,.tup [.int 15]] (Pcs p (p+1) nl (cd 0 0) O) (.int (cd 0 0).length) (Pcs p (p+1) nl (cd 0 0++[.tup [.int 15]]) O):=(c_emit (by rw[hc];exact Nat.lt_of_succ_lt hl)).mono (Nat.le_trans (by decide) hK)
  exact ZJ (f:=f_pattern_code) (fl := .ret _) (F':=[some v,some (.obj p)]) (F:=[some v,none]) rfl rfl (zG (F1:=[some v,some (.obj p)]) (jK (ye_cls (c := .pcode) (xs:=[]) rfl (fun q=>q.2 rfl) jF ((yc_cls (k:=9) rfl i_pcode).mono hK)) (by show 1<2;decide))
    (zG (yx_expr (v := .none) (ye_own (p:=p) (c := .pcode) (j:=11) (zW rfl) (fun H h=>⟨_,h.inst⟩) (fun q=>nomatch q) rfl (wW (vs:=[v]) rfl) b) rfl)
      (zG (yx_expr (v := .int (cd 0 0).length) (ye_own (p:=p) (c := .pcode) (j:=10) (zW rfl) (fun H h=>⟨_,h.inst⟩) (fun q=>nomatch q) rfl (wW (vs:=[.tup [.int 15]]) rfl) c) rfl)
        (jJ (ye_tup (zY (ye_attr (p:=p) (v := .obj (p+1)) (zW rfl) fun H h=>⟨.pcode,_,h.inst,(fun q=>nomatch q),rfl⟩) (zY (ye_attr (p:=p) (v := .int nl) (zW rfl) fun H h=>⟨.pcode,_,h.inst,(fun q=>nomatch q),rfl⟩) jF)))))))
noncomputable def Gh (P:HP)(E:Nat)(ws:List AV):HP:=fun H=>∃ H0,P H0∧H0.length=E∧H=H0++[.list ws]
noncomputable abbrev FC (t:AV)(f E:Nat)(x:Option AV):AF:=[some t,some (.int f),some (.obj E),x]
noncomputable abbrev gcC:XE:=(ZH [(zD OpC.eq (zK (zB 39) [(zQ 3)]) (zX 3)),(zD OpC.eq (zA (zQ 3) (zX 0)) (jA [103,114,111,117,112])),(zD OpC.isNot (zA (zQ 3) (zX 1)) jV)])
noncomputable abbrev gcB:List XS:=[(zU (zC 3 false) (n_meth (zQ 2) Me.pop [])),
    (wB (zK (zB 45) [(zQ 3),(zB 47)]) [(wB gcC [(s_aug 1 Op2.add (zX 1))] []),
    (ZX (n_meth (zQ 2) Me.extend [(zQ 3)]))] [])]
noncomputable abbrev gcT:XE:=zD OpC.gt (zK (zB 39) [(zQ 2)]) (zX 0)
noncomputable abbrev gT (N:Nat):AF→AM Bool:=fun F=>zZ (gcT.ev GlT (ac N) F) fun v=>jW (wH v)
noncomputable abbrev gB (N:Nat):AF→AM (Flo×AF):=fun F=>exs GlT (ac N) jG gcB F
noncomputable def Wh (P:HP)(E:Nat)(t:AV)(f:Nat)(ws:List AV)(fuel tot:Nat):Prop:=ws.length+fuel<line→∀ N x W,fuel≤W→∃ x',Yl (awhile (gT N) (gB N) W (FC t f E x)) (Gh P E ws) (.next,FC t tot E x') (Gh P E [])
noncomputable def Gc (v:AV)(c k:Nat):Prop:=∀ P E t f ws fuel tot,Wh P E t (f+c) ws fuel tot→Wh P E t f (ws++[v]) (fuel+k) tot
noncomputable def Gcs (ys:List AV)(c k:Nat):Prop:=∀ P E t f ws fuel tot,Wh P E t (f+c) ws fuel tot→Wh P E t f (ws++ys) (fuel+k) tot
section
variable {P:HP}{E f:Nat}{t v:AV}{ws ys zs:List AV}{H:AH}
theorem gh_get (h:Gh P E ws H):H[E]? = some (.list ws):=by
  obtain⟨H0,_,rfl,rfl⟩:=h
  rw[List.getElem?_append_right (Nat.le_refl _),Nat.sub_self];rfl
theorem gh_set (h:Gh P E ws H):Gh P E zs (H.set E (.list zs)):=by
  obtain⟨H0,h1,rfl,rfl⟩:=h
  exact⟨H0,h1,rfl,by rw[List.set_append_right _ _ (Nat.le_refl _),Nat.sub_self];rfl⟩
theorem y_ext {n:Nat}{P Q:HP}(h:∀ H,P H→∃ xs,H[n]? = some (.list xs)∧xs.length+ys.length<line∧Q (H.set n (.list (xs++ys)))):Yl (ame .extend (.obj n) [.tup ys]) P .none Q:=fun H p=>by
  obtain⟨xs,h1,h2,h3⟩:=h H p
  refine⟨_,?_,h3⟩
  show zZ (jW (one [AV.tup ys])) (fun v=>zZ (jW (toTup v)) fun ys=>zZ (alist (.obj n)) fun p=>zZ (jW (aif (p.2.length+ys.length<line) ())) fun q_=>zZ (aputL p.1 (p.2++ys)) fun q_=>zH AV.none) H=_
  rw[opt_eq (o:=one [AV.tup ys]) (x := .tup ys) rfl,opt_eq (o:=toTup (.tup ys)) (x:=ys) rfl,wV (zalist h1),opt_eq (ZG h2)];rfl
theorem wh_end:Wh P E t f [] 1 f:=fun h N x W hW=>by
  obtain⟨W,_,rfl⟩:=wC hW
  exact⟨x,zV (f:=fun b=>cond b (zZ (gB N (FC t f E x)) fun p=>ZU (awhile (gT N) (gB N) W) p) (zH (.next,FC t f E x))) (v:=false) (zV (f:=fun v=>jW (wH v)) (jY (K:=0) (o:=OpC.gt) (x := .int (0:Nat)) (y := .int (0:Nat)) (ye_lenL (n:=E) (xs:=[]) (zW rfl) (fun H h=>gh_get h) (Nat.zero_le _)) (zW rfl) (gt_f (Nat.le_refl 0)) N (Nat.zero_le N)) (wD fun H=>rfl)) wQ⟩
theorem w5 {a y k f L:Nat}(hk:y≤k)(h:a+1+(f+(k+1))<L):a+y+f<L:=Nat.lt_of_le_of_lt (by rw[Nat.add_assoc,Nat.add_comm y];exact Nat.add_le_add (Nat.le_succ a) (Nat.add_le_add_left (Nat.le_succ_of_le hk) f)) h
theorem w6 {a k f L:Nat}(h:a+1+(f+(k+1))<L):a+k+f+1<L:=Nat.lt_of_le_of_lt (by rw[Nat.add_assoc a k f,Nat.add_right_comm a (k+f) 1,Nat.add_comm k f];exact Nat.add_le_add_left (Nat.le_succ (f+k)) (a+1)) h
theorem w8 {a b c L:Nat}(h:a+b+c+1<L):a+b<L:=Nat.lt_of_le_of_lt (Nat.le_trans (Nat.le_add_right _ _) (Nat.le_succ _)) h
theorem w7 {a b c L:Nat}(h:a+b+c+1<L):a<L:=Nat.lt_of_le_of_lt (Nat.le_add_right _ _) (w8 h)
theorem wh_turn {f' fuel tot k:Nat}(hk:ys.length≤k)(h:ws.length+k+fuel+1<line→∀ N x,Yl (exs GlT (ac N) jG gcB (FC t f E x)) (Gh P E (ws++[v])) (.next,FC t f' E (some v)) (Gh P E (ws++ys)))(w:Wh P E t f' (ws++ys) fuel tot):Wh P E t f (ws++[v]) (fuel+(k+1)) tot:=fun hl N x W hW=>by
  obtain⟨W,hW',rfl⟩:=wC hW
  have hz:(ws++[v]).length=ws.length+1:=List.length_append
  rw[hz] at hl
  obtain⟨x',e⟩:=w (by rw[List.length_append];exact w5 hk hl) N (some v) W (Nat.le_trans (Nat.le_add_right _ _) hW')
  exact ⟨x',zV (f:=fun b=>cond b (zZ (gB N (FC t f E x)) fun p=>ZU (awhile (gT N) (gB N) W) p) (zH (.next,FC t f E x))) (v:=true) (zV (f:=fun v=>jW (wH v)) (jY (K:=0) (o:=OpC.gt) (x := .int (ws++[v]).length) (y := .int (0:Nat)) (ye_lenL (n:=E) (xs:=ws++[v]) (zW rfl) (fun H h=>gh_get h) (by rw[hz];exact Nat.le_trans (Nat.le_add_right _ _) (Nat.le_of_lt hl))) (zW rfl) (gt_t (by rw[hz];exact Nat.succ_pos _)) N (Nat.zero_le N)) (wD fun H=>rfl))
    (zV (f:=fun p=>ZU (awhile (gT N) (gB N) W) p) (h (w6 hl) N x) e)⟩
theorem g_pop (hl:ws.length<line){x:Option AV}:Yx 0 (FC t f E x) (zU (zC 3 false) (n_meth (zQ 2) Me.pop [])) (Gh P E (ws++[v])) (FC t f E (some v)) (Gh P E ws) :=
  jK (ye_meth ⟨rfl,rfl⟩ (n:=E) (zW rfl) (fun H h=>⟨_,gh_get h⟩) jF (y_pop fun H h=>⟨ws,gh_get h,hl,gh_set h⟩)) (by show 3<4;decide)
theorem gc_atom (ha:∀ t f E,E0 (zK (zB 45) [(zQ 3),(zB 47)]) (FC t f E (some v))=V0 (.bool false)):Gc v 0 1:=fun P E t f ws fuel tot w =>
  wh_turn (k:=0) (ys:=[]) (f':=f) (Nat.le_refl 0) (fun hl N x=>by
    rw[List.append_nil]
    exact zG (g_pop (w7 hl)) (ZV (zW (ha t f E)) ZY) N (Nat.zero_le N)) (by rw[List.append_nil];exact w)
theorem gcs_nil:Gcs [] 0 0:=fun P E t f ws fuel tot w=>by rw[List.append_nil];exact w
theorem wG {c c' k k':Nat}(h:Gc v c k)(h2:Gcs ys c' k'):Gcs (v::ys) (c'+c) (k+k'):=fun P E t f ws fuel tot w=>by
  rw[show ws++v::ys=ws++[v]++ys from by rw[List.append_assoc];rfl,←Nat.add_assoc]
  exact h2 P E t f (ws++[v]) (fuel+k) tot (h P E t (f+c') ws fuel tot (by rw[Nat.add_assoc];exact w))
theorem g_ext (hl:ws.length+ys.length<line):Yx 0 (FC t f E (some (.tup ys))) (ZX (n_meth (zQ 2) Me.extend [(zQ 3)])) (Gh P E ws) (FC t f E (some (.tup ys))) (Gh P E (ws++ys)) :=
  yx_expr (v := .none) (ye_meth ⟨rfl,rfl⟩ (n:=E) (zW rfl) (fun H h=>⟨_,gh_get h⟩) (wW (vs:=[.tup ys]) rfl) (y_ext fun H h=>⟨ws,gh_get h,hl,gh_set h⟩)) rfl
theorem gc_tup {c k:Nat}(hb:∀ t f E,E0 gcC (FC t f E (some (.tup ys)))=V0 (.bool false))(h:Gcs ys c k):Gc (.tup ys) c (k+(ys.length+1)):=fun P E t f ws fuel tot w=>by
  rw[←Nat.add_assoc]
  refine wh_turn (f':=f) (Nat.le_refl _) (fun hl N x=>?_) (h P E t f ws fuel tot w)
  exact zG (g_pop (w7 hl)) (ys_ifn (zW (by kernel_rfl)) (ZV (zW (hb t f E)) (zG (g_ext (w8 hl)) ZY)) ZY) N (Nat.zero_le N)
theorem gc_grp {c k:Nat}(hb:∀ t f E,E0 gcC (FC t f E (some (.tup ys)))=V0 (.bool true))(h:Gcs ys c k):Gc (.tup ys) (c+1) (k+(ys.length+1)):=fun P E t f ws fuel tot w=>by
  rw[←Nat.add_assoc]
  refine wh_turn (f':=f+1) (Nat.le_refl _) (fun hl N x=>?_) (h P E t (f+1) ws fuel tot (by rw[Nat.add_right_comm];exact w))
  exact zG (g_pop (w7 hl)) (ys_ifn (zW (by kernel_rfl)) (ys_ifn (zW (hb t f E)) (zG (F1:=FC t (f+1) E (some (.tup ys))) (fun n q_=>wD fun H=>by kernel_rfl) ZY) (zG (g_ext (w8 hl)) ZY)) ZY) N (Nat.zero_le N)
end
end
section
set_option backward.match.sparseCases false
open PySem
structure Lm where
  A:Nat
  b:Nat
  k:Nat
  lk:Nat
inductive Good (M:Lm)(P:Prof)(m n:Nat)(v:AV):Prop
  | mk (sz nl kk:Nat) (cd:Nat→Nat→List AV) (h1:∀ pc l,(cd pc l).length=sz) (h2:sz+sz≤M.k) (h3:nl≤sz) (h4:m≤n∧n≤m+sz) (h5:Put v sz nl cd (M.A+1)) (h6:kk≤M.k∧Gc v (n-m) kk)
    (h7:∀ X,XOk X→∀ pc l,Li X.SL pc (cd pc l)→n≤X.cnt→l+nl≤X.nL→Sim X v sz M.A M.b P M.lk pc l m):Good M P m n v
theorem Put.mono {v:AV}{sz nl K K':Nat}{cd:Nat→Nat→List AV}(h:Put v sz nl cd K)(hk:K≤K'):Put v sz nl cd K':=fun p L l xs O hl=>(h p L l xs O hl).mono hk
noncomputable def lep (P Q:Prof):Bool:=(List.range 5).all fun r=>Nat.ble (P.w r) (Q.w r)&&Nat.ble (P.s r) (Q.s r)
theorem lep_val {P Q:Prof}(h:lep P Q=true){C:Nat→Nat}{r:Nat}(hr:r≤4):val P C r≤val Q C r:=by
  have q:∀ j,j≤4→P.w j≤Q.w j∧P.s j≤Q.s j:=fun j hj=>by
    have:=(Bool.and_eq_true _ _).mp (List.all_eq_true.mp h j (List.mem_range.mpr (Nat.lt_succ_of_le hj)))
    exact⟨Nat.le_of_ble_eq_true this.1,Nat.le_of_ble_eq_true this.2⟩
  exact Nat.add_le_add (q r hr).2 (sm_le fun j hj=>Nat.mul_le_mul_right _ (q j (Nat.le_trans hj hr)).1)
noncomputable def leM (M N:Lm):Bool:=Nat.ble M.A N.A&&(Nat.ble M.b N.b&&(Nat.ble M.k N.k&&Nat.ble M.lk N.lk))
theorem Good.weak {M N:Lm}{P Q:Prof}{m n:Nat}{v:AV}(h:Good M P m n v)(hM:leM M N=true)(hP:lep P Q=true):Good N Q m n v:=by
  refine via fun R_ k_=>?_
  obtain⟨sz,nl,kk,cd,h1,h2,h3,h4,h5,h6,h7⟩:=h
  refine k_ ?_
  have q1:=(Bool.and_eq_true _ _).mp hM
  have q2:=(Bool.and_eq_true _ _).mp q1.2
  have q3:=(Bool.and_eq_true _ _).mp q2.2
  have eA:=Nat.le_of_ble_eq_true q1.1
  have ek:=Nat.le_of_ble_eq_true q3.1
  exact ⟨sz,nl,kk,cd,h1,Nat.le_trans h2 ek,h3,h4,h5.mono (Nat.succ_le_succ eA),⟨Nat.le_trans h6.1 ek,h6.2⟩,fun X O pc l hL hn hl d Φ kc c k0 k1 C a g lp hd hΦ h3 hb ha hg hlp E =>
    (h7 X O pc l hL hn hl d Φ kc c k0 k1 C a g lp (Nat.le_trans (Nat.le_of_ble_eq_true q3.2) hd) hΦ h3 (Nat.le_trans (Nat.le_of_ble_eq_true q2.1) hb) ha hg hlp E).mono (Nat.add_le_add_right eA _) (lep_val hP (Nat.le_trans (Nat.sub_le _ _) O.tx.len))⟩
section
variable {v:AV}{ts:List AV}{k:Int}{r:List AV}{m:Nat}
theorem g_leaf {i:AV}{kk:Nat}{P:Prof}(hp:Put v 1 0 (fun q_ q_=>[i]) 2)(hk:kk≤19)(hg:Gc v 0 kk)(h:∀ X,XOk X→∀ pc l,X.SL[pc]? = some i→Sim X v 1 1 0 P 0 pc l m):Good ⟨1,0,19,0⟩ P m m v :=
  ⟨1,0,kk,fun q_ q_=>[i],fun q_ q_=>rfl,(by decide),(by decide),⟨Nat.le_refl m,Nat.le_add_right _ _⟩,hp,⟨hk,by rw[Nat.sub_self];exact hg⟩,fun X O pc l hL q_ q_=>h X O pc l hL.1⟩
theorem pl_run {p:Nat}{P:HP}{i:AV}(h:C0 (.fn 12) [.obj p,v]=V0 i):Yc 1 (.fn 12) [.obj p,v] P i P:=fun n hn=>by
  obtain⟨m,_,rfl⟩:=wC hn
  exact wD (r0 h m)
end
theorem a_str {s:List Nat}:Gc (.str s) 0 1:=gc_atom fun t f E=>by kernel_rfl
theorem a_int {i:Int}:Gc (.int i) 0 1:=gc_atom fun t f E=>by kernel_rfl
theorem a_bool {b:Bool}:Gc (.bool b) 0 1:=gc_atom fun t f E=>by kernel_rfl
theorem a_none:Gc .none 0 1:=gc_atom fun t f E=>by kernel_rfl
theorem a_most {o:Option Nat}:Gc (mostA o) 0 1:=by
  cases o with
  | none=>exact a_none
  | some i=>exact a_int
theorem a_two {s:List Nat}{v:AV}{c k:Nat}(hb:∀ t f E,E0 gcC (FC t f E (some (.tup [.str s,v])))=V0 (.bool false))(h:Gc v c k):Gc (.tup [.str s,v]) c (k+4):=by
  have:=gc_tup hb (wG a_str (wG h gcs_nil))
  rwa [Nat.zero_add,Nat.add_zero,Nat.add_comm 1 (k+0),Nat.add_assoc (k+0)] at this
theorem a_rg:Gc rgA 0 13:=gc_tup (fun t f E=>by kernel_rfl) (wG (gc_tup (fun t f E=>by kernel_rfl) (wG a_int (wG a_int gcs_nil))) (wG (gc_tup (fun t f E=>by kernel_rfl) (wG a_int (wG a_int gcs_nil))) gcs_nil))
section
variable {m:Nat}
theorem g_chr {x:Nat}(hx:x∈LT)(hm:(vChr x,tChr x)∈SgL):Good ⟨1,0,19,0⟩ pchar m m (vChr x) :=
  g_leaf (put_leaf (ks:=[99,104,97,114]) (fun p=>by kernel_rfl) (by decide) fun p P=>pl_run (by kernel_rfl)) (show 5≤19 by decide) (a_two (fun t f E=>by kernel_rfl) a_int) fun X O pc l hi =>
    sim_sgn O (k:=kChr) (tk:=tChr x) (j:=0) (r:=[.int x]) hm (fun tx a g fl kc l=>by kernel_rfl) (fun tx a g fl kc l=>by kernel_rfl) rfl rfl (fun s sl L W c hc=>(v_chr hx hc).mono (by decide)) hi
theorem g_any:Good ⟨1,0,19,0⟩ pchar m m (.tup [kAny]) :=
  g_leaf (i := .tup [.int 1]) (put_leaf (ks:=[97,110,121]) (fun p=>by kernel_rfl) (by decide) fun p P=>pl_run (by kernel_rfl)) (show 1+0+(1+1)≤19 by decide) (gc_tup (fun t f E=>by kernel_rfl) (wG a_str gcs_nil)) fun X O pc l hi =>
    sim_sgn O (k:=kAny) (tk:=tAny) (j:=1) (r:=[]) (.tail _ (.tail _ (.tail _ (.head _)))) (fun tx a g fl kc l=>by kernel_rfl) (fun tx a g fl kc l=>by kernel_rfl) rfl rfl (fun s sl L W c hc=>(v_any hc).mono (by decide)) hi
theorem g_cls {o:Bool}(hm:(vCls o,tCls o)∈SgL):Good ⟨1,0,19,0⟩ pchar m m (vCls o) :=
  g_leaf (i := .tup [.int 2,rgA,.bool o]) (put_leaf (ks:=[99,108,97,115,115]) (fun p=>by kernel_rfl) (by decide) fun p P=>pl_run (by kernel_rfl)) (show 1+(13+(1+0))+(3+1)≤19 by decide) (gc_tup (fun t f E=>by kernel_rfl) (wG a_str (wG a_rg (wG a_bool gcs_nil)))) fun X O pc l hi =>
    sim_sgn O (k:=kCls) (tk:=tCls o) (j:=2) (r:=[rgA,.bool o]) hm (fun tx a g fl kc l=>by kernel_rfl) (fun tx a g fl kc l=>by kernel_rfl) rfl rfl (fun s sl L W c hc=>v_cls hc) hi
theorem g_start:Good ⟨1,0,19,0⟩ pone m m (.tup [kSta]) :=
  g_leaf (i := .tup [.int 3]) (put_leaf (ks:=[115,116,97,114,116]) (fun p=>by kernel_rfl) (by decide) fun p P=>pl_run (by kernel_rfl)) (show 1+0+(1+1)≤19 by decide) (gc_tup (fun t f E=>by kernel_rfl) (wG a_str gcs_nil)) fun X O pc l hi =>
    sim_std O (k:=kSta) (sd:=sdS X.cs X.fl) (j:=3) (r:=[]) (fun tx a g fl kc l=>by kernel_rfl) (fun a ha P=>(w_start O.tx ha).mono (by decide)) rfl rfl rfl (fun a ha s sl L W=>(v_start O.tx ha).mono (by decide)) hi
theorem g_end:Good ⟨1,0,19,0⟩ pone m m (.tup [kEnd]) :=
  g_leaf (i := .tup [.int 4]) (put_leaf (ks:=[101,110,100]) (fun p=>by kernel_rfl) (by decide) fun p P=>pl_run (by kernel_rfl)) (show 1+0+(1+1)≤19 by decide) (gc_tup (fun t f E=>by kernel_rfl) (wG a_str gcs_nil)) fun X O pc l hi =>
    sim_std O (k:=kEnd) (sd:=sdE X.cs X.fl) (j:=4) (r:=[]) (fun tx a g fl kc l=>by kernel_rfl) (fun a ha P=>(w_end O.tx ha).mono (by decide)) rfl rfl rfl (fun a ha s sl L W=>(v_end O.tx ha).mono (by decide)) hi
theorem g_bnd {o:Bool}:Good ⟨1,0,19,0⟩ pone m m (.tup [kBnd,.bool o]) :=
  g_leaf (i := .tup [.int 5,.bool o]) (put_leaf (ks:=[98,111,117,110,100,97,114,121]) (fun p=>by kernel_rfl) (by decide) fun p P=>pl_run (by kernel_rfl)) (show 5≤19 by decide) (a_two (fun t f E=>by kernel_rfl) a_bool) fun X O pc l hi =>
    sim_std O (k:=kBnd) (sd:=sdB o X.cs) (j:=5) (r:=[.bool o]) (fun tx a g fl kc l=>by kernel_rfl) (fun a ha P=>w_bnd O.tx ha) rfl rfl rfl (fun a ha s sl L W=>v_bnd O.tx ha) hi
theorem g_back {i:Nat}(hi:i<m):Good ⟨2,0,19,0⟩ pback m m (.tup [kBack,.int ((i+1:Nat):Int)]) :=
  ⟨1,0,5,fun q_ q_=>[.tup [.int 8,.int ((i+1:Nat):Int)]],fun q_ q_=>rfl,(show 2≤19 by decide),(Nat.zero_le _),⟨Nat.le_refl m,Nat.le_add_right _ _⟩,(put_leaf (ks:=[98,97,99,107]) (fun p=>by kernel_rfl) (by decide) fun p P=>pl_run (by kernel_rfl)).mono (by show 2≤3;decide),⟨(show 5≤19 by decide),by rw[Nat.sub_self];exact a_two (fun t f E=>by kernel_rfl) a_int⟩,
    fun X O pc l hL hn q_=>sim_back O (Nat.lt_of_lt_of_le hi hn) hL.1⟩
end
end
section
set_option backward.match.sparseCases false
open PySem
section
variable {s:List Nat}{a v w:AV}{c c2 k k2:Nat}
theorem gc_pair (h:Gc v c k)(h2:Gc w c2 k2):Gc (.tup [v,w]) (c+c2) (k+k2+3):=by
  have:=gc_tup (fun t f E=>by kernel_rfl) (wG h (wG h2 gcs_nil))
  rwa [Nat.zero_add,Nat.add_comm c2] at this
theorem gc_one (h:Gc v c k):Gc (.tup [v]) c (k+2):=by
  have:=gc_tup (fun t f E=>by kernel_rfl) (wG h gcs_nil)
  rwa [Nat.zero_add] at this
theorem gc_three (hb:∀ t f E,E0 gcC (FC t f E (some (.tup [.str s,a,v])))=V0 (.bool false))(ha:Gc a 0 1)(h:Gc v c k):Gc (.tup [.str s,a,v]) c (k+6):=by
  have:=gc_tup hb (wG a_str (wG ha (wG h gcs_nil)))
  rwa [Nat.zero_add,show 1+(1+(k+0))+([AV.str s,a,v].length+1)=k+6 from by show 1+(1+k)+4=_;rw[Nat.add_comm 1 k,Nat.add_comm 1]] at this
theorem gc_num {i:Int}(h:Gc v c k):Gc (.tup [kGrp,.int i,v]) (c+1) (k+6):=by
  have:=gc_grp (fun t f E=>by kernel_rfl) (wG (v:=kGrp) a_str (wG (v := .int i) a_int (wG h gcs_nil)))
  rwa [Nat.zero_add,show 1+(1+(k+0))+([kGrp,AV.int i,v].length+1)=k+6 from by show 1+(1+k)+4=_;rw[Nat.add_comm 1 k,Nat.add_comm 1]] at this
theorem gc_rep {least m n:Nat}{most:Option Nat}{lz:Bool}(h:Gc v c k):Gc (repT least most lz v m n) c (k+14):=by
  have:=gc_tup (ys:=[kRep,.int least,mostA most,.bool lz,v,.int m,.int n]) (fun t f E=>by kernel_rfl) (wG a_str (wG a_int (wG a_most (wG a_bool (wG h (wG a_int (wG a_int gcs_nil)))))))
  rwa [show 0+0+0+c+0+0+0+0=c from Nat.zero_add c,show 1+(1+(1+(1+(k+(1+(1+0))))))+([kRep,AV.int least,mostA most,.bool lz,v,.int m,.int n].length+1)=k+14 from by show 1+(1+(1+(1+(k+2))))+8=_;rw[Nat.add_comm 1 (k+2),Nat.add_comm 1 (k+2+1),Nat.add_comm 1 (k+2+1+1),Nat.add_comm 1]] at this
end
section
variable {A b k lk m n:Nat}{P:Prof}{v:AV}
theorem Good.gno (h:Good ⟨A,b,k,lk⟩ P m n v):Good ⟨A+2,b,k+6,lk⟩ P m n (.tup [kGrp,.none,v]):=by
  refine via fun R_ k_=>?_
  obtain⟨sz,nl,kk,cd,h1,h2,h3,h4,h5,h6,h7⟩:=h
  refine k_ ?_
  exact⟨sz,nl,kk+6,cd,h1,Nat.le_trans h2 (Nat.le_add_right _ _),h3,h4,put_gno h5,⟨Nat.add_le_add_right h6.1 6,gc_three (fun t f E=>by kernel_rfl) a_none h6.2⟩,fun X O pc l hL hn hl=>(h7 X O pc l hL hn hl).gno⟩
theorem Good.seq1 (h:Good ⟨A,b,k,lk⟩ P m n v):Good ⟨A+4,b,k+6,lk⟩ P m n (.tup [kSeq,.tup [v]]):=by
  refine via fun R_ k_=>?_
  obtain⟨sz,nl,kk,cd,h1,h2,h3,h4,h5,h6,h7⟩:=h
  refine k_ ?_
  exact⟨sz,nl,kk+2+4,cd,h1,Nat.le_trans h2 (Nat.le_add_right _ _),h3,h4,(put_seq1 h5).mono (show A+1+1≤A+4+1 from Nat.add_le_add_left (show 2≤5 by decide) A),⟨Nat.add_le_add_right h6.1 6,a_two (fun t f E=>by kernel_rfl) (gc_one h6.2)⟩,fun X O pc l hL hn hl=>(h7 X O pc l hL hn hl).seq1⟩
theorem dbl1 {a k e f:Nat}(h:a+a≤k)(h2:e+e≤f):(a+e)+(a+e)≤k+f:=by
  rw[Nat.add_add_add_comm]
  exact Nat.add_le_add h h2
theorem dbl {a b k k2 e f:Nat}(h:a+a≤k)(g:b+b≤k2)(h2:e+e≤f):(a+b+e)+(a+b+e)≤k+k2+f:=dbl1 (dbl1 h g) h2
theorem sub_sub_ {m k n:Nat}(h:m≤k)(h2:k≤n):(k-m)+(n-k)=n-m:=by rw[Nat.add_comm,Nat.sub_add_sub_cancel h2 h]
theorem two_le {m k n a b:Nat}(h:k≤m+a)(h2:n≤k+b):n≤m+(a+b):=Nat.le_trans h2 (Nat.le_trans (Nat.add_le_add_right h b) (Nat.le_of_eq (Nat.add_assoc _ _ _)))
theorem Good.seq2 {mid A2 k2:Nat}{P2:Prof}{w:AV}(h:Good ⟨A,b,k,lk⟩ P m mid v)(g:Good ⟨A2,b,k2,lk⟩ P2 mid n w):Good ⟨A+A2+6,b,k+k2+7,lk⟩ (pcomp P P2) m n (.tup [kSeq,.tup [v,w]]):=by
  refine via fun R_ k_=>?_
  obtain⟨sz,nl,kk,cd,h1,h2,h3,h4,h5,h6,h7⟩:=h
  obtain⟨sz2,nl2,kk2,cd2,g1,g2,g3,g4,g5,g6,g7⟩:=g
  refine k_ ?_
  have kl:k+k2≤k+k2+7:=Nat.le_add_right _ _
  refine ⟨sz+sz2,nl+nl2,kk+kk2+3+4,fun pc l=>cd pc l++cd2 (pc+sz) (l+nl),fun pc l=>by rw[List.length_append,h1,g1],Nat.le_trans (dbl1 h2 g2) kl,Nat.add_le_add h3 g3,⟨Nat.le_trans h4.1 g4.1,two_le h4.2 g4.2⟩,
    (put_seq2 (h5.mono (show A+1≤A+A2+1 from Nat.succ_le_succ (Nat.le_add_right _ _))) (g5.mono (show A2+1≤A+A2+1 from Nat.succ_le_succ (Nat.le_add_left _ _))) h1).mono (show A+A2+1+1≤A+A2+6+1 from Nat.add_le_add_left (show 2≤7 by decide) (A+A2)),⟨Nat.add_le_add_right (Nat.add_le_add h6.1 g6.1) 7,?_⟩,fun X O pc l hL hn hl=>?_⟩
  · rw[←sub_sub_ h4.1 g4.1]
    exact a_two (fun t f E=>by kernel_rfl) (gc_pair h6.2 g6.2)
  · obtain⟨q1,q2⟩:=li_app hL (h1 pc l)
    have S2:=g7 X O (pc+sz) (l+nl) q2 hn (by rw[Nat.add_assoc];exact hl)
    rw[←Nat.add_sub_cancel' h4.1] at S2
    exact(h7 X O pc l q1 (Nat.le_trans g4.1 hn) (Nat.le_trans (Nat.add_le_add_left (Nat.le_add_right _ _) l) hl)).seq2 S2
theorem Good.alt {mid k2:Nat}{P2:Prof}{w:AV}(h:Good ⟨A,b,k,lk⟩ P m mid v)(g:Good ⟨A,b,k2,lk⟩ P2 mid n w):Good ⟨A+2,b,k+k2+7,lk⟩ (palt P P2) m n (.tup [kAlt,.tup [v,w]]):=by
  refine via fun R_ k_=>?_
  obtain⟨sz,nl,kk,cd,h1,h2,h3,h4,h5,h6,h7⟩:=h
  obtain⟨sz2,nl2,kk2,cd2,g1,g2,g3,g4,g5,g6,g7⟩:=g
  refine k_ ?_
  have kl:k+k2≤k+k2+7:=Nat.le_add_right _ _
  refine⟨sz+sz2+2,nl+nl2,kk+kk2+3+4,altC sz sz2 nl cd cd2,fun pc l=>?_,dbl (e:=2) (f:=7) h2 g2 (by decide),Nat.le_trans (Nat.add_le_add h3 g3) (Nat.le_add_right _ _),⟨Nat.le_trans h4.1 g4.1,Nat.le_trans (two_le h4.2 g4.2) (Nat.add_le_add_left (Nat.le_add_right _ _) m)⟩,put_alt h5 g5 h1 g1,⟨Nat.add_le_add_right (Nat.add_le_add h6.1 g6.1) 7,?_⟩,fun X O pc l hL hn hl=>?_⟩
  · rw[List.length_cons,List.length_append,h1,List.length_cons,g1];rfl
  · rw[←sub_sub_ h4.1 g4.1]
    exact a_two (fun t f E=>by kernel_rfl) (gc_pair h6.2 g6.2)
  · obtain⟨q1,q2⟩:=li_app hL.2 (h1 (pc+1) l)
    have S2:=g7 X O (pc+1+sz+1) (l+nl) q2.2 hn (by rw[Nat.add_assoc];exact hl)
    rw[←Nat.add_sub_cancel' h4.1] at S2
    exact(h7 X O (pc+1) l q1 (Nat.le_trans g4.1 hn) (Nat.le_trans (Nat.add_le_add_left (Nat.le_add_right _ _) l) hl)).alt O S2 hL.1 q2.1
theorem Good.grp (h:Good ⟨A,b,k,lk⟩ P (m+1) n v):Good ⟨A+2,b,k+6,lk⟩ (pgrp P) m n (.tup [kGrp,.int ((m+1:Nat):Int),v]):=by
  refine via fun R_ k_=>?_
  obtain⟨sz,nl,kk,cd,h1,h2,h3,h4,h5,h6,h7⟩:=h
  refine k_ ?_
  refine⟨sz+2,nl,kk+6,fun pc l => .tup [.int 6,.int ((m+1:Nat):Int)]::(cd (pc+1) l++[.tup [.int 7,.int ((m+1:Nat):Int)]]),fun pc l=>?_,dbl1 (e:=2) (f:=6) h2 (by decide),Nat.le_trans h3 (Nat.le_add_right _ _),⟨Nat.le_of_succ_le h4.1,Nat.le_trans h4.2 (Nat.le_trans (Nat.le_of_eq (Nat.add_right_comm m 1 sz)) (Nat.le_succ _))⟩,put_grp h5 h1,⟨Nat.add_le_add_right h6.1 6,?_⟩,fun X O pc l hL hn hl=>?_⟩
  · rw[List.length_cons,List.length_append,h1];rfl
  · rw[sub_s h4.1]
    exact gc_num h6.2
  · obtain⟨q1,q2⟩:=li_app hL.2 (h1 (pc+1) l)
    exact(h7 X O (pc+1) l q1 hn hl).grp O (Nat.le_trans h4.1 hn) (Nat.le_trans (Nat.le_add_right _ _) hl) hL.1 q2.1
theorem Good.look {o:Bool}(h:Good ⟨A,b,k,lk⟩ P m n v)(hP:∀ r,r≤4→val P (fun q_=>1) r<jG):Good ⟨A+1,b,k+6,lk+1⟩ (plook P) m n (.tup [JX,.bool o,v]):=by
  refine via fun R_ k_=>?_
  obtain⟨sz,nl,kk,cd,h1,h2,h3,h4,h5,h6,h7⟩:=h
  refine k_ ?_
  refine⟨sz+2,nl,kk+6,fun pc l => .tup [.int 9,.bool o,.int ((pc+(sz+2):Nat):Int)]::(cd (pc+1) l++[.tup [.int 15]]),fun pc l=>?_,dbl1 (e:=2) (f:=6) h2 (by decide),Nat.le_trans h3 (Nat.le_add_right _ _),⟨h4.1,Nat.le_trans h4.2 (Nat.add_le_add_left (Nat.le_add_right _ _) m)⟩,put_look h5 h1,⟨Nat.add_le_add_right h6.1 6,gc_three (fun t f E=>by kernel_rfl) a_bool h6.2⟩,fun X O pc l hL hn hl=>?_⟩
  · rw[List.length_cons,List.length_append,h1];rfl
  · obtain⟨q1,q2⟩:=li_app hL.2 (h1 (pc+1) l)
    exact(h7 X O (pc+1) l q1 hn hl).look O hP hL.1 q2.1
theorem Good.rep {b2 least:Nat}{most:Option Nat}{lz:Bool}(h:Good ⟨A,b,k,lk⟩ P m n v)(hb:b≤b2)(hb2:A+2+b * 5≤b2)(hl1:least≤1):Good ⟨A+4,b2,k+14,lk⟩ (prep least most P) m n (repT least most lz v (m+1) (n+1)):=by
  refine via fun R_ k_=>?_
  obtain⟨sz,nl,kk,cd,h1,h2,h3,h4,h5,h6,h7⟩:=h
  refine k_ ?_
  refine⟨sz+3,1+nl,kk+14,repC sz least most lz m n cd,fun pc l=>?_,dbl1 (e:=3) (f:=14) h2 (by decide),Nat.le_trans (Nat.le_of_eq (Nat.add_comm 1 nl)) (Nat.le_trans (Nat.succ_le_succ h3) (Nat.le_add_right (sz+1) 2)),⟨h4.1,Nat.le_trans h4.2 (Nat.add_le_add_left (Nat.le_add_right _ _) m)⟩,(put_rep h5 h1).mono (show A+3≤A+4+1 from Nat.add_le_add_left (show 3≤5 by decide) A),⟨Nat.add_le_add_right h6.1 14,gc_rep h6.2⟩,fun X O pc l hL hn hl=>?_⟩
  · rw[List.length_cons,List.length_cons,List.length_append,h1];rfl
  · obtain⟨q1,q2⟩:=li_app hL.2.2 (h1 (pc+2) (l+1))
    rw[←Nat.add_assoc] at hl
    exact Sim.rep O (h7 X O (pc+2) (l+1) q1 hn hl) hb hb2 hl1 (Nat.lt_of_lt_of_le (Nat.lt_succ_self l) (Nat.le_trans (Nat.le_add_right _ _) hl)) h4.1 hn hL.1 hL.2.1 q2.1
end
end
section
set_option backward.match.sparseCases false
open PySem
noncomputable def mk5 (w s:List Nat):Prof:=⟨fun j=>w.getD j 0,fun j=>s.getD j 0⟩
noncomputable def setS0:List Prof:=[mk5 [0,0,1,0,0] [1,2,2,2,2],mk5 [0,1,0,0,0] [2,2,2,2,2],mk5 [1,0,0,0,0] [2,2,2,2,2]]
noncomputable def setG1:List Prof:=[mk5 [0,0,2,0,0] [4,6,9,9,9],mk5 [0,1,1,0,0] [5,8,9,9,9],mk5 [0,2,0,0,0] [6,9,9,9,9],mk5 [1,0,1,0,0] [7,8,9,9,9],mk5 [1,1,0,0,0] [8,9,9,9,9],mk5 [2,0,0,0,0] [9,9,9,9,9]]
noncomputable def setT1:List Prof:=[mk5 [1,1,1,1,1] [1,1,1,1,1],mk5 [0,0,2,0,4] [6,8,23,27,41],mk5 [0,1,2,2,1] [7,17,30,38,41],mk5 [0,2,4,0,0] [8,27,41,41,41],mk5 [1,0,2,0,1] [19,21,35,36,39],mk5 [1,2,1,0,0] [21,36,39,39,39],mk5 [2,0,0,0,0] [37,37,37,37,37]]
noncomputable def setS1:List Prof:=[mk5 [0,0,4,16,16] [8,43,127,231,287],mk5 [4,0,0,0,0] [111,111,111,111,111],mk5 [2,0,4,0,8] [75,79,146,147,187],mk5 [2,4,8,0,0] [79,147,263,263,263],mk5 [2,4,8,10,8] [51,114,197,263,275]]
noncomputable def setG2:List Prof:=[mk5 [0,0,8,32,32] [18,88,268,524,684],mk5 [8,0,0,0,0] [236,236,236,236,236],mk5 [2,4,12,26,24] [65,171,358,564,668],mk5 [2,0,8,16,24] [89,128,291,426,562],mk5 [4,8,16,20,16] [138,281,504,600,648],mk5 [6,0,8,0,16] [198,202,312,314,418],mk5 [6,8,16,0,0] [202,314,570,570,570],mk5 [6,4,12,10,8] [174,243,445,446,494]]
noncomputable def setT2:List Prof:=[mk5 [8,0,0,0,0] [2206,2206,2206,2206,2206],mk5 [6,56,560,5376,51968] [1464,14008,139672,1345688,13004440]]
noncomputable def setS2:List Prof:=[mk5 [64,0,0,0,0] [19854,19854,19854,19854,19854],mk5 [48,448,4480,43008,415744] [14700,150780,1511804,14577276,140877436],mk5 [36,672,9856,127232,1539328] [10248,180040,2581992,32956392,395994088]]
noncomputable def setP:List Prof:=[pone,pchar]
noncomputable def anyLe (P:Prof)(L:List Prof):Bool:=L.any (lep P)
noncomputable def Cl (M:Lm)(L:List Prof)(m n:Nat)(v:AV):Prop:=∃ P,P∈L∧Good M P m n v
section
variable {M N:Lm}{P:Prof}{L S T G:List Prof}{m n mid:Nat}{v w:AV}
theorem cl_of (hM:leM M N=true)(h:anyLe P L=true)(g:Good M P m n v):Cl N L m n v:=by
  obtain⟨Q,hQ,h⟩:=List.any_eq_true.mp h
  exact⟨Q,hQ,g.weak hM h⟩
theorem and_i1 {a b:Bool}(h:(a&&b)=true):a=true:=(jQ h).1
theorem and_i2 {a b:Bool}(h:(a&&b)=true):b=true:=(jQ h).2
theorem all_i {α:Type}{f:α→Bool}{l:List α}(h:l.all f=true){x:α}(hx:x∈l):f x=true:=List.all_eq_true.mp h x hx
noncomputable def okSq (T S:List Prof):Bool:=T.all fun A=>anyLe A S&&T.all fun B=>anyLe (pcomp A B) S
noncomputable def okGp (S G:List Prof):Bool:=S.all fun A=>anyLe A G&&(anyLe (pgrp A) G&&S.all fun B=>anyLe (pgrp (palt A B)) G)
noncomputable def Bnd (d least:Nat)(most:Option Nat):Prop:=(least=0∨least=1)∧(most=some least∨most=some (least+1)∨(d≠0∧most=none))
noncomputable def okRep (d:Nat)(T:List Prof)(b:Prof):Bool:=[0,1].all fun least=>anyLe (prep least (some least) b) T&&(anyLe (prep least (some (least+1)) b) T&&(Nat.ble d 0||anyLe (prep least none b) T))
noncomputable def okLk (T:List Prof)(b:Prof):Bool:=anyLe (plook b) T&&(List.range 5).all fun r=>Nat.blt (b.s r+sm b.w r) jG
theorem cl_seq1 (ok:okSq T S=true)(hM:leM ⟨M.A+4,M.b,M.k+6,M.lk⟩ N=true)(h:Cl M T m n v):Cl N S m n (.tup [kSeq,.tup [v]]):=by
  obtain⟨P,hP,g⟩:=h
  exact cl_of hM (and_i1 (all_i ok hP)) g.seq1
theorem cl_seq2 (ok:okSq T S=true)(hM:leM ⟨M.A+M.A+6,M.b,M.k+M.k+7,M.lk⟩ N=true)(h:Cl M T m mid v)(h2:Cl M T mid n w):Cl N S m n (.tup [kSeq,.tup [v,w]]):=by
  refine via fun R_ k_=>?_
  obtain⟨P,hP,g⟩:=h
  obtain⟨Q,hQ,g2⟩:=h2
  refine k_ ?_
  exact cl_of hM (all_i (and_i2 (all_i ok hP)) hQ) (g.seq2 g2)
theorem cl_gno (ok:okGp S G=true)(hM:leM ⟨M.A+2,M.b,M.k+6,M.lk⟩ N=true)(h:Cl M S m n v):Cl N G m n (.tup [kGrp,.none,v]):=by
  obtain⟨P,hP,g⟩:=h
  exact cl_of hM (and_i1 (all_i ok hP)) g.gno
theorem cl_grp (ok:okGp S G=true)(hM:leM ⟨M.A+2,M.b,M.k+6,M.lk⟩ N=true)(h:Cl M S (m+1) n v):Cl N G m n (.tup [kGrp,.int ((m+1:Nat):Int),v]):=by
  obtain⟨P,hP,g⟩:=h
  exact cl_of hM (and_i1 (and_i2 (all_i ok hP))) g.grp
theorem cl_alt (ok:okGp S G=true)(hM:leM ⟨M.A+2+2,M.b,M.k+M.k+7+6,M.lk⟩ N=true)(h:Cl M S (m+1) mid v)(h2:Cl M S mid n w):Cl N G m n (.tup [kGrp,.int ((m+1:Nat):Int),.tup [kAlt,.tup [v,w]]]):=by
  refine via fun R_ k_=>?_
  obtain⟨P,hP,g⟩:=h
  obtain⟨Q,hQ,g2⟩:=h2
  refine k_ ?_
  exact cl_of hM (all_i (and_i2 (and_i2 (all_i ok hP))) hQ) (g.alt g2).grp
theorem cl_look {o:Bool}(ok:S.all (okLk T)=true)(hM:leM ⟨M.A+1,M.b,M.k+6,M.lk+1⟩ N=true)(h:Cl M S m n v):Cl N T m n (.tup [JX,.bool o,v]):=by
  obtain⟨P,hP,g⟩:=h
  have q:=all_i ok hP
  exact cl_of hM (and_i1 q) (g.look fun r hr=>by
    rw[val_c1]
    exact Nat.le_of_ble_eq_true (all_i (and_i2 q) (List.mem_range.mpr (Nat.lt_succ_of_le hr))))
theorem cl_rep {d least:Nat}{most:Option Nat}{lz:Bool}(ok:S.all (okRep d T)=true)(hb:M.b≤N.b)(hb2:M.A+2+M.b * 5≤N.b)(hM:leM ⟨M.A+4,N.b,M.k+14,M.lk⟩ N=true)(B:Bnd d least most)(h:Cl M S m n v):Cl N T m n (repT least most lz v (m+1) (n+1)):=by
  obtain⟨P,hP,g⟩:=h
  have hl:least∈[0,1]:=by rcases B.1 with e | e <;> rw[e] <;> decide
  have q:=all_i (all_i ok hP) hl
  have hl1:least≤1:=by rcases B.1 with e | e <;> rw[e] <;> decide
  refine cl_of hM ?_ (g.rep hb hb2 hl1)
  rcases B.2 with e | e | ⟨e0,e⟩
  · rw[e];exact and_i1 q
  · rw[e];exact and_i1 (and_i2 q)
  · rw[e]
    rcases(Bool.or_eq_true _ _).mp (and_i2 (and_i2 q)) with q | q
    · exact absurd (Nat.le_zero.mp (Nat.le_of_ble_eq_true q)) e0
    · exact q
end
structure Dp (d:Nat)(T S G T2:Nat→Nat→AV→Prop):Prop where
  s1:∀ {m n v},T m n v→S m n (.tup [kSeq,.tup [v]])
  s2:∀ {m k n v w},T m k v→T k n w→S m n (.tup [kSeq,.tup [v,w]])
  gn:∀ {m n v},S m n v→G m n (.tup [kGrp,.none,v])
  g1:∀ {m n:Nat} {v},S (m+1) n v→G m n (.tup [kGrp,.int ((m+1:Nat):Int),v])
  ga:∀ {m k n:Nat} {v w},S (m+1) k v→S k n w→G m n (.tup [kGrp,.int ((m+1:Nat):Int),.tup [kAlt,.tup [v,w]]])
  lf:∀ {m v},Cl ⟨1,0,19,0⟩ setP m m v→T2 m m v
  bk:∀ {m i:Nat},i<m→T2 m m (.tup [kBack,.int ((i+1:Nat):Int)])
  lk:∀ {m n v} (o:Bool),S m n v→T2 m n (.tup [JX,.bool o,v])
  gr:∀ {m n v},G m n v→T2 m n v
  rg:∀ {m n least:Nat} {most:Option Nat} {v} (lz:Bool),Bnd d least most→G m n v→T2 m n (repT least most lz v (m+1) (n+1))
  rp:∀ {m least:Nat} {most:Option Nat} {v} (lz:Bool),Bnd d least most→Cl ⟨1,0,19,0⟩ setP m m v→T2 m m (repT least most lz v (m+1) (m+1))
theorem cl_up {M N:Lm}{L T:List Prof}{m n:Nat}{v:AV}(hM:leM M N=true)(ok:(L.all fun P=>anyLe P T)=true)(h:Cl M L m n v):Cl N T m n v:=by
  obtain⟨P,hP,g⟩:=h
  exact cl_of hM (all_i ok hP) g
theorem cl_back {N:Lm}{T:List Prof}{m i:Nat}(hM:leM ⟨2,0,19,0⟩ N=true)(ok:anyLe pback T=true)(h:i<m):Cl N T m m (.tup [kBack,.int ((i+1:Nat):Int)]):=cl_of hM ok (g_back h)
noncomputable abbrev T0:=Cl ⟨1,0,19,0⟩ setP
noncomputable abbrev S0:=Cl ⟨8,0,45,0⟩ setS0
noncomputable abbrev G1:=Cl ⟨12,0,103,0⟩ setG1
noncomputable abbrev T1:=Cl ⟨16,14,117,1⟩ setT1
noncomputable abbrev S1:=Cl ⟨38,14,241,1⟩ setS1
noncomputable abbrev G2:=Cl ⟨42,14,495,1⟩ setG2
noncomputable abbrev T2:=Cl ⟨46,114,509,2⟩ setT2
noncomputable abbrev S2:=Cl ⟨98,114,1025,2⟩ setS2
theorem ok1:okSq setP setS0=true:=by decide +kernel
theorem ok2:okGp setS0 setG1=true:=by decide +kernel
theorem ok3:setS0.all (okLk setT1)=true:=by decide +kernel
theorem ok4:setG1.all (okRep 0 setT1)=true:=by decide +kernel
theorem ok5:setP.all (okRep 0 setT1)=true:=by decide +kernel
theorem ok6:okSq setT1 setS1=true:=by decide +kernel
theorem ok7:okGp setS1 setG2=true:=by decide +kernel
theorem ok8:setS1.all (okLk setT2)=true:=by decide +kernel
theorem ok9:setG2.all (okRep 1 setT2)=true:=by decide +kernel
theorem okA:setP.all (okRep 1 setT2)=true:=by decide +kernel
theorem okB:okSq setT2 setS2=true:=by decide +kernel
theorem dp0:Dp 0 T0 S0 G1 T1 where
  s1:=cl_seq1 ok1 rfl
  s2:=cl_seq2 ok1 rfl
  gn:=cl_gno ok2 rfl
  g1:=cl_grp ok2 rfl
  ga:=cl_alt ok2 rfl
  lf:=cl_up rfl (by decide +kernel)
  bk:=cl_back rfl (by decide +kernel)
  lk:=fun o=>cl_look ok3 rfl
  gr:=cl_up rfl (by decide +kernel)
  rg:=fun lz B h=>cl_rep ok4 (by decide) (by decide) rfl B h
  rp:=fun lz B h=>cl_rep ok5 (by decide) (by decide) rfl B h
theorem dp1:Dp 1 T1 S1 G2 T2 where
  s1:=cl_seq1 ok6 rfl
  s2:=cl_seq2 ok6 rfl
  gn:=cl_gno ok7 rfl
  g1:=cl_grp ok7 rfl
  ga:=cl_alt ok7 rfl
  lf:=cl_up rfl (by decide +kernel)
  bk:=cl_back rfl (by decide +kernel)
  lk:=fun o=>cl_look ok8 rfl
  gr:=cl_up rfl (by decide +kernel)
  rg:=fun lz B h=>cl_rep ok9 (by decide) (by decide) rfl B h
  rp:=fun lz B h=>cl_rep okA (by decide) (by decide) rfl B h
theorem s2_one {m n:Nat}{v:AV}:T2 m n v→S2 m n (.tup [kSeq,.tup [v]]):=cl_seq1 okB rfl
theorem s2_two {m k n:Nat}{v w:AV}:T2 m k v→T2 k n w→S2 m n (.tup [kSeq,.tup [v,w]]):=cl_seq2 okB rfl
end
section
set_option backward.match.sparseCases false
open PySem
noncomputable def DealOk (d:AObj)(g:Nat):Prop:=∃ (nums:List Int)(i s:Int),d = .list [.lst (nums.map .int),.int i,.int s,.int (g:Nat)]∧nums.length≤40∧0≤i
noncomputable def hd1 (d:AObj):HP:=fun H=>H=[d]
section
variable {K:Nat}{F F':AF}{d d':AObj}{e:XE}{v:AV}{s:XS}{ss:List XS}{fl:Flo}{P:HP}
theorem ye_at (h:∀ n,e.ev GlT (ac n) F [d]=some (v,[d'])):Ye K F e (hd1 d) v (hd1 d'):=fun n q_ H q=>by cases q;exact⟨_,h n,rfl⟩
theorem yx_at1 (h:∀ n,s.ex GlT (ac n) jG F [d]=some ((.next,F'),[d'])):Yx K F s (hd1 d) F' (hd1 d'):=fun n q_ H q=>by cases q;exact⟨_,h n,rfl⟩
theorem ys_skip1 {F1:AF}{Q:HP}(j:Nat)(h:∀ n,exs GlT (ac n) jG (ss.take j) F [d]=some ((.next,F1),[d]))(k:Ys K F1 (ss.drop j) (hd1 d) fl F' Q):Ys K F ss (hd1 d) fl F' Q:=fun n hn H q=>by
  obtain⟨H',e,q'⟩:=k n hn H q
  cases q
  refine⟨H',?_,q'⟩
  rw[←List.take_append_drop j ss]
  exact(exs_append (h n)).trans e
theorem ys_run (h:X0 ss F=V0 (fl,F')):Ys K F ss P fl F' P:=fun n q_=>wD (r0 h n)
end
theorem at_ints {nums:List Int}{i:Int}(h0:0≤i)(h1:i<(nums.length:Int))(h2:nums.length≤40):∃ a,at? (nums.map AV.int) i=some (.int a):=by
  obtain⟨k,rfl⟩:=Int.eq_ofNat_of_zero_le h0
  have hk:k<nums.length:=Int.ofNat_lt.mp h1
  refine⟨nums[k],?_⟩
  rw[at_nat (Nat.le_trans (Nat.le_of_lt hk) (Nat.le_trans h2 (by decide))),List.getElem?_map,List.getElem?_eq_getElem hk];rfl
noncomputable abbrev FTk (m:Nat):AF:=[some (.obj 0),some (.int m)]
noncomputable abbrev dlA (nums:List Int)(i s:Int)(g:Nat):AObj := .list [.lst (nums.map .int),.int i,.int s,.int g]
inductive Drw (d:AObj)(g m:Nat):Prop
  | mk (r:Nat) (d':AObj) (h:r<m) (D:DealOk d' g) (y:Yc 1 (.fn 30) [.obj 0,.int m] (hd1 d) (.int (r:Nat)) (hd1 d')):Drw d g m
inductive Drw1 (d:AObj)(g m:Nat):Prop
  | mk (r:Nat) (d':AObj) (h:r<m) (D:DealOk d' g) (y:∀ K F,Ye (K+1) (some (.obj 0)::F) (zK (zB 53) [zQ 0,zX (m:Nat)]) (hd1 d) (.int (r:Nat)) (hd1 d')):Drw1 d g m
inductive Dwd (C:Nat→Nat→AV→Prop)(m f:Nat)(xs:List AV)(K:Nat)(d:AObj):Prop
  | mk (v:AV) (d':AObj) (k:Nat) (c:C m k v) (D:DealOk d' k) (y:Yc K (.fn f) xs (hd1 d) v (hd1 d')):Dwd C m f xs K d
inductive Dwp (m:Nat)(d:AObj):Prop
  | mk (v:AV) (d':AObj) (c:T0 m m v) (D:DealOk d' m) (y:Yc 2 (.fn 32) [.obj 0] (hd1 d) v (hd1 d')):Dwp m d
theorem take_fin {d d':AObj}{g m:Nat}{v:Int}(hm:0<m)(D:DealOk d' g)(e:Ys 0 (FTk m) f_law_take.body (hd1 d) (.ret (.int (v % (m:Int)))) (FTk m) (hd1 d')):Drw d g m:=by
  have hmz:(0:Int)<(m:Int):=Int.ofNat_lt.mpr hm
  have h1:=Int.emod_nonneg v (Int.ne_of_gt hmz)
  have h2:=Int.emod_lt_of_pos v hmz
  refine⟨(v % (m:Int)).toNat,d',Int.ofNat_lt.mp (by rw[Int.toNat_of_nonneg h1];exact h2),D,?_⟩
  rw[Int.toNat_of_nonneg h1]
  exact ZJ (f:=f_law_take) (F:=FTk m) rfl rfl e
theorem mod_ok {m:Nat}(hm:0<m)(x:Int):abin .mod (.int x) (.int m)=some (.int (x % (m:Int))):=by
  have h:(0:Int)<(m:Int):=Int.ofNat_lt.mpr hm
  show(aif (0<(m:Int)) (x % (m:Int))).map AV.int=_
  rw[ZG h];rfl
theorem take_ok {d:AObj}{g:Nat}(D:DealOk d g){m:Nat}(hm:0<m):Drw d g m:=by
  obtain⟨nums,i,s,rfl,hl,hi⟩:=D
  have c2:Ye 0 (FTk m) (zK (zB 39) [zA (zQ 0) (zX 0)]) (hd1 (dlA nums i s g)) (.int nums.length) (hd1 (dlA nums i s g)):=ye_bi (f := .len) rfl (zY (v := .lst (nums.map .int)) (ye_at fun n=>rfl) jF) fun H q=>by
    show(aif ((nums.map AV.int).length≤line) (AV.int (nums.map AV.int).length))=_
    rw[List.length_map]
    exact ZG (Nat.le_trans hl (by decide))
  by_cases h:i<(nums.length:Int)
  · obtain ⟨a,ha⟩:=at_ints hi h hl
    exact take_fin (d':=dlA nums (i+1) s g) (v:=a) hm ⟨nums,i+1,s,rfl,hl,Int.add_nonneg hi (by decide)⟩ (wX (jY (x := .int i) (ye_at fun n=>rfl) c2 (congrArg some (decide_eq_true h)))
      (zG (F1:=FTk m) (Q:=hd1 (dlA nums (i+1) s g)) (yx_at1 fun n=>rfl) (jJ (JK (x := .int a) (ye_sub (x := .lst (nums.map .int)) (y := .int (i+1-1)) (ye_at fun n=>rfl) (ye_at fun n=>rfl) fun H q=>by
        show at? (nums.map AV.int) (i+1-1)=_
        rw[Int.add_sub_cancel];exact ha) (ye_at fun n=>rfl) (mod_ok hm a)))))
  · exact take_fin (d':=dlA nums i ((s * 69621+4099) % 2147483647) g) (v:=(s * 69621+4099) % 2147483647 / 64) hm ⟨nums,i,_,rfl,hl,hi⟩ (ZV (jY (x := .int i) (ye_at fun n=>rfl) c2 (congrArg some (decide_eq_false h)))
      (zG (F1:=FTk m) (Q:=hd1 (dlA nums i ((s * 69621+4099) % 2147483647) g)) (yx_at1 fun n=>rfl) (jJ (JK (x := .int ((s * 69621+4099) % 2147483647 / 64)) (ye_at fun n=>rfl) (ye_at fun n=>rfl) (mod_ok hm _)))))
theorem draw {d:AObj}{g:Nat}(D:DealOk d g){m:Nat}(hm:0<m):Drw1 d g m:=by
  refine via fun R_ k_=>?_
  obtain⟨r,d',h1,h2,h3⟩:=take_ok D hm
  refine k_ ?_
  exact⟨r,d',h1,h2,fun K F=>jD (f:=30) rfl (wW rfl) (h3.mono (Nat.succ_le_succ (Nat.zero_le K)))⟩
noncomputable abbrev plB:List XS:=f_law_plain.body.drop 1
noncomputable abbrev FPl (r:Nat):AF:=[some (.obj 0),some (.int r)]
theorem c4 {r:Nat}(h:r<4):r=0∨r=1∨r=2∨r=3:=(by decide:∀ r,r<4→r=0∨r=1∨r=2∨r=3) r h
theorem c8 {r:Nat}(h:r<8):r<4∨r=4∨r=5∨r=6∨r=7:=(by decide:∀ r,r<8→r<4∨r=4∨r=5∨r=6∨r=7) r h
theorem pl_chr {m:Nat}{x:Nat}(hx:x∈LT)(hm:(vChr x,tChr x)∈SgL):T0 m m (vChr x):=⟨pchar,.tail _ (.head _),g_chr hx hm⟩
theorem pl_one {m:Nat}{v:AV}(h:Good ⟨1,0,19,0⟩ pone m m v):T0 m m v:=⟨pone,.head _,h⟩
noncomputable abbrev plL:XE:=n_lst false [(jC [(jA [115,116,97,114,116])]),(jC [(jA [101,110,100])]),(jC [(jA [98,111,117,110,100,97,114,121]),(n_bool false)]),(jC [(jA [98,111,117,110,100,97,114,121]),(n_bool true)])]
theorem plain_ok:∀ d m,DealOk d m→Dwp m d:=fun d m D=>by
  refine via fun R_ k_=>?_
  obtain⟨r,d1,hr,D1,e1⟩:=draw D (m:=8) (by decide)
  refine k_ ?_
  have run:∀ {v d'},Ys 1 (FPl r) plB (hd1 d1) (.ret v) (FPl r) (hd1 d')→Yc 2 (.fn 32) [.obj 0] (hd1 d) v (hd1 d'):=fun h=>ZJ (f:=f_law_plain) (F:=[some (.obj 0),none]) rfl rfl (zG (F1:=FPl r) (jK (e1 0 _) (by show 1<2;decide)) h)
  have tail:(X0 (plB.take 3) (FPl r)=V0 (.next,FPl r))→Dwp m d:=fun h6=>by
    refine via fun R_ k_=>?_
    obtain⟨q,d2,hq,D2,e2⟩:=draw D1 (m:=4) (by decide)
    refine k_ ?_
    have pre:∀ {v:AV},asub [d2] (.lst [.tup [kSta],.tup [kEnd],.tup [kBnd,.bool false],.tup [kBnd,.bool true]]) (.int (q:Nat))=some v→Yc 2 (.fn 32) [.obj 0] (hd1 d) v (hd1 d2):=fun hv =>
      run (wU 3 h6 (jJ (ye_sub (a:=plL) (zW (by kernel_rfl)) (e2 0 _) fun H q=>by cases q;exact hv)))
    rcases c4 hq with rfl | rfl | rfl | rfl
    · exact⟨_,d2,pl_one g_start,D2,pre (by kernel_rfl)⟩
    · exact⟨_,d2,pl_one g_end,D2,pre (by kernel_rfl)⟩
    · exact⟨_,d2,pl_one (g_bnd (o:=false)),D2,pre (by kernel_rfl)⟩
    · exact⟨_,d2,pl_one (g_bnd (o:=true)),D2,pre (by kernel_rfl)⟩
  rcases c8 hr with hr | rfl | rfl | rfl | rfl
  · rcases c4 hr with rfl | rfl | rfl | rfl
    · exact⟨_,d1,pl_chr (.head _) (.head _),D1,run (ys_run (by kernel_rfl))⟩
    · exact⟨_,d1,pl_chr (.tail _ (.head _)) (.tail _ (.head _)),D1,run (ys_run (by kernel_rfl))⟩
    · exact⟨_,d1,pl_chr (.head _) (.head _),D1,run (ys_run (by kernel_rfl))⟩
    · exact⟨_,d1,pl_chr (.tail _ (.tail _ (.tail _ (.head _)))) (.tail _ (.tail _ (.head _))),D1,run (ys_run (by kernel_rfl))⟩
  · exact⟨_,d1,⟨pchar,.tail _ (.head _),g_any⟩,D1,run (ys_run (by kernel_rfl))⟩
  · refine via fun R_ k_=>?_
    obtain⟨q,d2,hq,D2,e2⟩:=draw D1 (m:=2) (by decide)
    refine k_ ?_
    refine⟨vCls (decide ((q:Int)=1)),d2,⟨pchar,.tail _ (.head _),g_cls ?_⟩,D2,run (wU 2 (F1:=FPl 5) (by kernel_rfl) (wX (zW (by kernel_rfl)) (jJ (ye_tup (zY (v:=kCls) (zW rfl) (zY (v:=rgA) (zW (by kernel_rfl)) (zY (jY (x := .int q) (y := .int 1) (e2 0 _) (zW rfl) rfl) jF)))))))⟩
    cases decide ((q:Int)=1)
    · exact .tail _ (.tail _ (.tail _ (.tail _ (.head _))))
    · exact .tail _ (.tail _ (.tail _ (.tail _ (.tail _ (.head _)))))
  · exact tail (by kernel_rfl)
  · exact tail (by kernel_rfl)
end
section
set_option backward.match.sparseCases false
open PySem
noncomputable def Dwn (C:Nat→Nat→AV→Prop)(f dp K:Nat):Prop:=∀ d m,DealOk d m→Dwd C m f [.obj 0,.int dp] K d
section
variable {T S G T':Nat→Nat→AV→Prop}{dp K:Nat}
noncomputable abbrev sqN:List (List Nat):=[[116,117,114,110],[100,101,97,108],[100,101,101,112]]
noncomputable abbrev sqT:XE:=zK (zB 57) [(zQ 1),(zQ 2)]
noncomputable abbrev sqR:XI:=i_range1 (jZ Op2.add (zX 1) (zK (zB 53) [(zQ 0),(zX 2)]))
noncomputable abbrev sqF (n dp:Nat):AV→AM (Option AV):=cfN n sqN sqT (zC 0 false) [] [(1,.obj 0),(2,.int dp)]
theorem sq_one {n:Nat}{i:Int}{P Q:HP}{v:AV}(h:Yc K (.fn 34) [.obj 0,.int dp] P v Q)(hn:K≤n):Yl (sqF n dp (.int i)) P (some v) Q :=
  zV (f:=fun F'=>zZ (ands GlT (ac n) F' []) fun b=>zZ (jW (wH b)) fun t=>if t then zZ (sqT.ev GlT (ac n) F') (fun v=>zH (some v)) else zH none) (v:=[some (.int i),some (.obj 0),some (.int dp)]) (wD fun H=>rfl)
    (zV (f:=fun v=>zH (some v)) (jD (K:=K) (a:=zB 57) (es:=[(zQ 1),(zQ 2)]) (f:=34) rfl (wW rfl) h n hn) wQ)
theorem ac_one {f:AV→AM (Option AV)}{x v:AV}{P Q:HP}(h:Yl (f x) P (some v) Q):Yl (acomp f [x]) P [v] Q:=by
  refine zV (f:=fun o=>zZ (acomp f []) fun l=>zH (match o with
      | some v=>v::l
      | none=>l)) h ?_
  exact wD fun H=>rfl
theorem ac_two {f:AV→AM (Option AV)}{x y v w:AV}{P Q R:HP}(h:Yl (f x) P (some v) Q)(k:Yl (f y) Q (some w) R):Yl (acomp f [x,y]) P [v,w] R:=by
  refine zV (f:=fun o=>zZ (acomp f [y]) fun l=>zH (match o with
      | some v=>v::l
      | none=>l)) h ?_
  exact zV (f:=fun l=>zH (v::l)) (ac_one k) wQ
theorem sq_fin {r:Nat}{d d1:AObj}{vs xs:List AV}{Q:HP}(hr:small (1+(r:Int))=true)(hx:ZC 0 (1+(r:Int))=xs)(hl:vs.length≤100)(e1:∀ K F,Ye (K+1) (some (.obj 0)::F) (zK (zB 53) [zQ 0,zX 2]) (hd1 d) (.int (r:Nat)) (hd1 d1))(h:∀ n,K+1≤n→Yl (acomp (sqF n dp) xs) (hd1 d1) vs Q):Yc (K+2) (.fn 31) [.obj 0,.int dp] (hd1 d) (.tup [kSeq,.tup vs]) Q :=
  ZJ (f:=f_law_seq) (F:=[some (.obj 0),some (.int dp)]) rfl rfl (jJ (ye_tup (zY (v:=kSeq) (zW rfl) (zY (ye_bi (f := .tuple) rfl (zY (fun n hn=>y_comp (names:=sqN) (src:=sqR) (caps:=[(0,1),(1,2)]) (l:=[(1,.obj 0),(2,.int dp)]) (hx▸y_rng1 (JK (x := .int 1) (z := .int (1+(r:Int))) (zW rfl) (e1 K _) rfl n hn) hr) rfl (h n hn) (Nat.le_trans hl (by decide))) jF) fun H q_=>ZG (Nat.le_trans hl (by decide))) jF))))
theorem seq_ok (h1:∀ {m n v},T m n v→S m n (.tup [kSeq,.tup [v]]))(h2:∀ {m k n v w},T m k v→T k n w→S m n (.tup [kSeq,.tup [v,w]]))(h:Dwn T 34 dp (K+1)):Dwn S 31 dp (K+2):=fun d m D=>by
  refine via fun R_ k_=>?_
  obtain⟨r,d1,hr,D1,e1⟩:=draw D (m:=2) (by decide)
  obtain⟨a,d2,k,ta,D2,e2⟩:=h d1 m D1
  refine k_ ?_
  rcases Nat.lt_succ_iff_lt_or_eq.mp hr with hr | rfl
  · cases Nat.lt_one_iff.mp hr
    exact⟨_,d2,k,h1 ta,D2,sq_fin (xs:=[.int 0]) (by decide) rfl (show 1≤100 by decide) e1 fun n hn=>ac_one (sq_one e2 hn)⟩
  · refine via fun R_ k_=>?_
    obtain⟨b,d3,k2,tb,D3,e3⟩:=h d2 k D2
    refine k_ ?_
    exact⟨_,d3,k2,h2 ta tb,D3,sq_fin (xs:=[.int 0,.int 1]) (by decide) rfl (show 2≤100 by decide) e1 fun n hn=>ac_two (sq_one e2 hn) (sq_one e3 hn)⟩
noncomputable abbrev sqC:XE:=zK (zB 54) [(zQ 0),(jZ Op2.sub (zQ 1) (zX 1))]
theorem sqC_ok {P Q:HP}{F:AF}{v:AV}(e:Yc K (.fn 31) [.obj 0,.int dp] P v Q):Ye K (some (.obj 0)::some (.int ((dp+1:Nat):Int))::F) sqC P v Q :=
  jD (f:=31) rfl (zY (zW rfl) (zY (ye_prv (zW rfl)) jF)) e
noncomputable abbrev FGr (dp:Nat)(x:Option AV):AF:=[some (.obj 0),some (.int ((dp+1:Nat):Int)),x]
theorem bump {d:AObj}{g:Nat}(D:DealOk d g){K:Nat}:∃ d',DealOk d' (g+1)∧∀ {fl F' Q},Ys K (FGr dp (some (.int ((g+1:Nat):Int)))) (f_law_group.body.drop 3) (hd1 d') fl F' Q→Ys K (FGr dp none) (f_law_group.body.drop 1) (hd1 d) fl F' Q:=by
  obtain⟨nums,i,s,rfl,hl,hi⟩:=D
  exact⟨dlA nums i s (g+1),⟨nums,i,s,rfl,hl,hi⟩,fun h=>zG (F1:=FGr dp none) (Q:=hd1 (dlA nums i s (g+1))) (yx_at1 fun n=>by kernel_rfl) (zG (F1:=FGr dp (some (.int ((g+1:Nat):Int)))) (Q:=hd1 (dlA nums i s (g+1))) (yx_at1 fun n=>by kernel_rfl) h)⟩
theorem ne_cmp {a b:Int}(h:a≠b):JW .eq (.int a) (.int b)=some false:=congrArg some (decide_eq_false h)
theorem eq_cmp {a b:Int}(h:a=b):JW .eq (.int a) (.int b)=some true:=congrArg some (decide_eq_true h)
theorem group_ok (gn:∀ {m n v},S m n v→G m n (.tup [kGrp,.none,v]))(g1:∀ {m n:Nat} {v},S (m+1) n v→G m n (.tup [kGrp,.int ((m+1:Nat):Int),v]))
    (ga:∀ {m k n:Nat} {v w},S (m+1) k v→S k n w→G m n (.tup [kGrp,.int ((m+1:Nat):Int),.tup [kAlt,.tup [v,w]]])) (h:Dwn S 31 dp (K+1)):Dwn G 33 (dp+1) (K+2):=fun d m D=>by
  refine via fun R_ k_=>?_
  obtain⟨r,d1,hr,D1,e1⟩:=draw D (m:=3) (by decide)
  refine k_ ?_
  by_cases hr2:(r:Int)=2
  · refine via fun R_ k_=>?_
    obtain⟨a,d2,k,sa,D2,e2⟩:=h d1 m D1
    refine k_ ?_
    exact⟨_,d2,k,gn sa,D2,ZJ (f:=f_law_group) (F:=FGr dp none) rfl rfl (wX (jY (x := .int r) (y := .int 2) (e1 K _) (zW rfl) (eq_cmp hr2)) (jJ (ye_tup (zY (v:=kGrp) (zW rfl) (zY (v := .none) (zW rfl) (zY (sqC_ok e2) jF))))))⟩
  · refine via fun R_ k_=>?_
    obtain⟨d2,D2,e2⟩:=bump (dp:=dp) D1 (K:=K+1)
    obtain⟨q,d3,hq,D3,e3⟩:=draw D2 (m:=2) (by decide)
    obtain⟨a,d4,k,sa,D4,e4⟩:=h d3 (m+1) D3
    refine k_ ?_
    by_cases hq0:(q:Int)=0
    · exact⟨_,d4,k,g1 sa,D4,ZJ (f:=f_law_group) (F:=FGr dp none) rfl rfl (ZV (jY (x := .int r) (y := .int 2) (e1 K _) (zW rfl) (ne_cmp hr2)) (e2 (wX (jY (x := .int q) (y := .int 0) (e3 K _) (zW rfl) (eq_cmp hq0)) (jJ (ye_tup (zY (v:=kGrp) (zW rfl) (zY (v := .int ((m+1:Nat):Int)) (zW rfl) (zY (sqC_ok e4) jF))))))))⟩
    · refine via fun R_ k_=>?_
      obtain⟨b,d5,k2,sb,D5,e5⟩:=h d4 k D4
      refine k_ ?_
      exact⟨_,d5,k2,ga sa sb,D5,ZJ (f:=f_law_group) (F:=FGr dp none) rfl rfl (ZV (jY (x := .int r) (y := .int 2) (e1 K _) (zW rfl) (ne_cmp hr2)) (e2 (ZV (jY (x := .int q) (y := .int 0) (e3 K _) (zW rfl) (ne_cmp hq0)) (jJ (ye_tup (zY (v:=kGrp) (zW rfl) (zY (v := .int ((m+1:Nat):Int)) (zW rfl) (zY (ye_tup (zY (v:=kAlt) (zW rfl) (zY (ye_tup (zY (sqC_ok e4) (zY (sqC_ok e5) jF))) jF))) jF))))))))⟩
end
end
section
set_option backward.match.sparseCases false
open PySem
noncomputable abbrev FT (x:AV)(k a b c e f g:Option AV):AF:=[some (.obj 0),some x,k,a,b,c,e,f,g]
noncomputable abbrev FK (dp r:Nat):AF:=FT (.int ((dp+1:Nat):Int)) (some (.int r)) none none none none none none
section
variable {T S G T':Nat→Nat→AV→Prop}{dp K:Nat}{d d':AObj}{F:AF}{v x:AV}
theorem ev_plain (e:Yc K (.fn 32) [.obj 0] (hd1 d) v (hd1 d')):Ye K (some (.obj 0)::F) (zK (zB 55) [(zQ 0)]) (hd1 d) v (hd1 d'):=jD (f:=32) rfl (wW rfl) e
theorem ev_group (e:Yc K (.fn 33) [.obj 0,x] (hd1 d) v (hd1 d')):Ye K (some (.obj 0)::some x::F) (zK (zB 56) [(zQ 0),(zQ 1)]) (hd1 d) v (hd1 d'):=jD (f:=33) rfl (wW rfl) e
theorem term0_ok:Dwn T0 34 0 3:=fun d m D=>by
  refine via fun R_ k_=>?_
  obtain⟨v,d',h,D',e⟩:=plain_ok d m D
  refine k_ ?_
  exact⟨v,d',m,h,D',ZJ (f:=f_law_term) (F':=FT (.int ((0:Nat):Int)) (some (.int ((0:Nat):Int))) none none none none none none) (F:=FT (.int ((0:Nat):Int)) none none none none none none none) rfl rfl (wU 5 (F1:=FT (.int ((0:Nat):Int)) (some (.int ((0:Nat):Int))) none none none none none none) (by kernel_rfl) (jJ (ev_plain e)))⟩
theorem ev_cnt {g:Nat}(D:DealOk d g):Ye K (some (.obj 0)::F) (jZ Op2.add (zA (zQ 0) (zX 3)) (zX 1)) (hd1 d) (.int ((g+1:Nat):Int)) (hd1 d):=by
  obtain⟨nums,i,s,rfl,hl,hi⟩:=D
  exact JK (x := .int g) (y := .int 1) (ye_at fun n=>rfl) (ye_at fun n=>rfl) (add_nat g 1)
noncomputable abbrev bdE:XE:=(n_ite (zD OpC.gt (zQ 1) (zX 1)) (n_lst false [jV,(zQ 4),(jZ Op2.add (zQ 4) (zX 1)),jV]) (n_lst false [(zQ 4),(jZ Op2.add (zQ 4) (zX 1)),(zQ 4),(jZ Op2.add (zQ 4) (zX 1))]))
noncomputable abbrev bdL (dp q:Nat):List AV:=if dp=0 then [.int q,.int ((q+1:Nat):Int),.int q,.int ((q+1:Nat):Int)] else [.none,.int q,.int ((q+1:Nat):Int),.none]
theorem ev_bd {q:Nat}{P:HP}{k a:Option AV}:Ye K (FT (.int ((dp+1:Nat):Int)) k a (some (.int q)) none none none none) bdE P (.lst (bdL dp q)) P:=by
  by_cases h:dp=0
  · subst h
    exact ye_itef (jY (x := .int ((0+1:Nat):Int)) (y := .int ((1:Nat):Int)) (zW rfl) (zW rfl) (gt_f (Nat.le_refl 1))) (zW (by kernel_rfl))
  · rw[show bdL dp q=[.none,.int q,.int ((q+1:Nat):Int),.none] from if_neg h]
    exact ye_itet (jY (x := .int ((dp+1:Nat):Int)) (y := .int ((1:Nat):Int)) (zW rfl) (zW rfl) (gt_t (Nat.succ_lt_succ (Nat.pos_of_ne_zero h)))) (zW (by kernel_rfl))
theorem bd_at {q j:Nat}(hq:q<2)(hj:j<4):∃ most,Bnd dp q most∧(bdL dp q)[j]? = some (mostA most):=by
  have hb:q=0∨q=1:=(Nat.lt_succ_iff_lt_or_eq.mp hq).imp Nat.lt_one_iff.mp id
  by_cases h:dp=0
  · rw[show bdL dp q=_ from if_pos h]
    rcases c4 hj with rfl | rfl | rfl | rfl
    · exact⟨some q,⟨hb,.inl rfl⟩,rfl⟩
    · exact⟨some (q+1),⟨hb,.inr (.inl rfl)⟩,rfl⟩
    · exact⟨some q,⟨hb,.inl rfl⟩,rfl⟩
    · exact⟨some (q+1),⟨hb,.inr (.inl rfl)⟩,rfl⟩
  · rw[show bdL dp q=_ from if_neg h]
    rcases c4 hj with rfl | rfl | rfl | rfl
    · exact⟨none,⟨hb,.inr (.inr ⟨h,rfl⟩)⟩,rfl⟩
    · exact⟨some q,⟨hb,.inl rfl⟩,rfl⟩
    · exact⟨some (q+1),⟨hb,.inr (.inl rfl)⟩,rfl⟩
    · exact⟨none,⟨hb,.inr (.inr ⟨h,rfl⟩)⟩,rfl⟩
noncomputable abbrev tmE:XE:=(n_ite (zD OpC.eq (zK (zB 53) [(zQ 0),(zX 2)]) (zX 0)) (zK (zB 56) [(zQ 0),(zQ 1)]) (zK (zB 55) [(zQ 0)]))
theorem yx_swap {K:Nat}{F:AF}{is:List Nat}{es:List XE}{xs:List AV}{P Q:HP}(h:Yv K F es P xs Q)(h2:xs.length=is.length∧is.all (fun i=>decide (i<F.length))=true):Yx K F (s_swap is es) P (asets is xs F) Q:=fun n hn =>
  zV (f:=fun xs:List AV=>zZ (jW (aif (xs.length=is.length∧is.all (fun i=>decide (i<F.length))=true) ())) fun q_=>zH (Flo.next,asets is xs F)) (h n hn) (zV (f:=fun q_=>zH (Flo.next,asets is xs F)) (y_aif h2) wQ)
noncomputable abbrev FRr (dp r m q:Nat)(bd mo lz tm:Option AV):AF:=FT (.int ((dp+1:Nat):Int)) (some (.int r)) (some (.int ((m+1:Nat):Int))) (some (.int q)) bd mo lz tm
inductive Dwr (T':Nat→Nat→AV→Prop)(m dp r K:Nat)(d:AObj):Prop
  | mk (v:AV) (d':AObj) (k:Nat) (F':AF) (c:T' m k v) (D:DealOk d' k) (y:Ys K (FK dp r) (f_law_term.body.drop 4) (hd1 d) (.ret v) F' (hd1 d')):Dwr T' m dp r K d
theorem repD_ok (rg:∀ {m n least:Nat}{most:Option Nat} {v}(lz:Bool),Bnd dp least most→G m n v→T' m n (repT least most lz v (m+1) (n+1)))(rp:∀ {m least:Nat}{most:Option Nat} {v}(lz:Bool),Bnd dp least most→T0 m m v→T' m m (repT least most lz v (m+1) (m+1)))
    (hg:Dwn G 33 (dp+1) (K+2)) {r:Nat} (hr:r=7∨r=8) {m:Nat} (D:DealOk d m):Dwr T' m dp r (K+2) d:=by
  have c7:Ye (K+2) (FK dp r) (zD OpC.isIn (zQ 2) (jC [(zX 7),(zX 8)])) (hd1 d) (.bool true) (hd1 d):=by
    rcases hr with rfl | rfl <;> exact zW (by kernel_rfl)
  refine via fun R_ k_=>?_
  obtain⟨q,d1,hq,D1,e1⟩:=draw D (m:=2) (by decide)
  obtain⟨j,d2,hj,D2,e2⟩:=draw D1 (m:=4) (by decide)
  obtain⟨z,d3,hz,D3,e3⟩:=draw D2 (m:=2) (by decide)
  obtain⟨y,d4,hy,D4,e4⟩:=draw D3 (m:=2) (by decide)
  obtain⟨most,B,hm⟩:=bd_at (dp:=dp) hq hj
  refine k_ ?_
  have fin:∀ {v:AV} {k:Nat} {d5:AObj},DealOk d5 k→Ye (K+2) (FRr dp r m q (some (.lst (bdL dp q))) (some (mostA most)) (some (.bool (decide ((z:Int)=1)))) none) tmE (hd1 d3) v (hd1 d5)→Ys (K+2) (FK dp r) (f_law_term.body.drop 4) (hd1 d) (.ret (repT q most (decide ((z:Int)=1)) v (m+1) (k+1))) (FRr dp r m q (some (.lst (bdL dp q))) (some (mostA most)) (some (.bool (decide ((z:Int)=1)))) (some v)) (hd1 d5):=fun D5 e5 =>
    wX c7 (zG (F1:=FRr dp r m q none none none none) (yx_swap (zY (ev_cnt D) (zY (e1 _ _) jF)) ⟨rfl,rfl⟩) (zG (F1:=FRr dp r m q (some (.lst (bdL dp q))) none none none) (jK ev_bd (by show 5<9;decide))
      (zG (F1:=FRr dp r m q (some (.lst (bdL dp q))) (some (mostA most)) (some (.bool (decide ((z:Int)=1)))) none) (yx_swap (zY (ye_sub (x := .lst (bdL dp q)) (y := .int j) (zW rfl) (e2 _ _) fun H q_=>zsub_lst (Nat.le_trans (Nat.le_of_lt hj) (by decide)) hm) (zY (jY (x := .int z) (y := .int 1) (t:=decide ((z:Int)=1)) (e3 _ _) (zW rfl) rfl) jF)) ⟨rfl,rfl⟩)
        (zG (jK e5 (by show 8<9;decide)) (jJ (ye_tup (zY (v:=kRep) (zW rfl) (zY (v := .int q) (zW rfl) (zY (v:=mostA most) (zW rfl) (zY (v := .bool (decide ((z:Int)=1))) (zW rfl) (zY (zW rfl) (zY (v := .int ((m+1:Nat):Int)) (zW rfl) (zY (ev_cnt D5) jF)))))))))))))
  by_cases hy0:(y:Int)=0
  · refine via fun R_ k_=>?_
    obtain⟨v,d5,k,hv,D5,e5⟩:=hg d4 m D4
    refine k_ ?_
    exact⟨_,d5,k,_,rg _ B hv,D5,fin D5 (ye_itet (jY (x := .int y) (y := .int 0) (e4 _ _) (zW rfl) (eq_cmp hy0)) (ev_group e5))⟩
  · refine via fun R_ k_=>?_
    obtain⟨v,d5,hv,D5,e5⟩:=plain_ok d4 m D4
    refine k_ ?_
    exact⟨_,d5,m,_,rp _ B hv,D5,fin D5 (ye_itef (jY (x := .int y) (y := .int 0) (e4 _ _) (zW rfl) (ne_cmp hy0)) (ev_plain (e5.mono (Nat.le_add_left 2 K))))⟩
theorem c9 {r:Nat}(h:r<9):(r=0∨r=1∨r=2)∨(r=3∨r=6)∨r=4∨r=5∨(r=7∨r=8):=(by decide:∀ r,r<9→(r=0∨r=1∨r=2)∨(r=3∨r=6)∨r=4∨r=5∨(r=7∨r=8)) r h
theorem term_ok (D0:Dp dp T S G T')(hs:Dwn S 31 dp (K+2))(hg:Dwn G 33 (dp+1) (K+2)):Dwn T' 34 (dp+1) (K+3):=fun d m D=>by
  refine via fun R_ k_=>?_
  obtain⟨r,d1,hr9,D1,e1⟩:=draw D (m:=9) (by decide)
  refine k_ ?_
  have run:∀ {v F' d'},Ys (K+2) (FK dp r) (f_law_term.body.drop 1) (hd1 d1) (.ret v) F' (hd1 d')→Yc (K+3) (.fn 34) [.obj 0,.int ((dp+1:Nat):Int)] (hd1 d) v (hd1 d'):=fun h =>
    ZJ (f:=f_law_term) (F:=FT (.int ((dp+1:Nat):Int)) none none none none none none none) rfl rfl (zG (F1:=FK dp r) (jK (ye_itet (jY (x := .int ((dp+1:Nat):Int)) (y := .int ((0:Nat):Int)) (zW rfl) (zW rfl) (gt_t (Nat.succ_pos dp))) (e1 _ _)) (by show 2<9;decide)) h)
  have plain:(∀ n,exs GlT (ac n) jG ((f_law_term.body.drop 1).take 4) (FK dp r) [d1]=some ((.next,FK dp r),[d1]))→Dwd T' m 34 [.obj 0,.int ((dp+1:Nat):Int)] (K+3) d:=fun h=>by
    refine via fun R_ k_=>?_
    obtain⟨v,d',hv,D',e⟩:=plain_ok d1 m D1
    refine k_ ?_
    exact⟨v,d',m,D0.lf hv,D',run (F':=FK dp r) (ys_skip1 4 h (jJ (ev_plain (e.mono (Nat.le_add_left 2 K)))))⟩
  rcases c9 hr9 with h | h | rfl | rfl | h
  · refine plain ?_
    rcases h with rfl | rfl | rfl <;> exact fun n=>by kernel_rfl
  · refine via fun R_ k_=>?_
    obtain⟨v,d2,k,hv,D2,e2⟩:=hg d1 m D1
    refine k_ ?_
    refine⟨v,d2,k,D0.gr hv,D2,run (F':=FK dp r) (wU 2 (F1:=FK dp r) ?_ (wX (Q:=hd1 d1) ?_ (jJ (ev_group e2))))⟩
    · rcases h with rfl | rfl <;> exact(by kernel_rfl)
    · rcases h with rfl | rfl <;> exact zW (by kernel_rfl)
  · by_cases hm:m=0
    · subst hm
      have D1':=D1
      obtain⟨nums,i,s,rfl,hl,hi⟩:=D1'
      exact plain fun n=>by kernel_rfl
    · refine via fun R_ k_=>?_
      obtain⟨q,d2,hq,D2,e2⟩:=take_ok D1 (Nat.pos_of_ne_zero hm)
      refine k_ ?_
      have gm:∀ {F},Ye (K+2) (some (.obj 0)::F) (zA (zQ 0) (zX 3)) (hd1 d1) (.int m) (hd1 d1):=by
        obtain⟨nums,i,s,rfl,hl,hi⟩:=D1
        exact ye_at fun n=>rfl
      refine⟨_,d2,m,D0.bk hq,D2,run (F':=FK dp 4) (wX (Q:=hd1 d1) (ye_and2 (a:=true) (b:=true) (zW (by kernel_rfl)) (jY (x := .int m) (y := .int ((0:Nat):Int)) gm (zW rfl) (gt_t (Nat.pos_of_ne_zero hm)))) (jJ (ye_tup (zY (v:=kBack) (zW rfl) (zY (JK (x := .int ((1:Nat):Int)) (y := .int q) (zW rfl) (jD (f:=30) rfl (zY (zW rfl) (zY gm jF)) (e2.mono (Nat.le_add_left 1 _))) ?_) jF)))))⟩
      rw[add_nat,Nat.add_comm 1 q]
  · refine via fun R_ k_=>?_
    obtain⟨q,d2,hq,D2,e2⟩:=draw D1 (m:=2) (by decide)
    obtain⟨v,d3,k,hv,D3,e3⟩:=hs d2 m D2
    refine k_ ?_
    exact⟨_,d3,k,D0.lk (decide ((q:Int)=1)) hv,D3,run (F':=FK dp 5) (wU 1 (F1:=FK dp 5) (by kernel_rfl) (wX (zW (by kernel_rfl)) (jJ (ye_tup (zY (v:=JX) (zW rfl) (zY (jY (x := .int q) (y := .int 1) (t:=decide ((q:Int)=1)) (e2 _ _) (zW rfl) rfl) (zY (sqC_ok e3) jF)))))))⟩
  · refine via fun R_ k_=>?_
    obtain⟨v,d2,k,F',hv,D2,e2⟩:=repD_ok D0.rg D0.rp hg h D1
    refine k_ ?_
    refine⟨v,d2,k,hv,D2,run (wU 3 (F1:=FK dp r) ?_ e2)⟩
    rcases h with rfl | rfl <;> exact(by kernel_rfl)
end
theorem drawn:Dwn S2 31 2 10:=by
  have s0:Dwn S0 31 0 4:=seq_ok dp0.s1 dp0.s2 term0_ok
  have g0:Dwn G1 33 1 5:=group_ok dp0.gn dp0.g1 dp0.ga s0
  have t1:Dwn T1 34 1 6:=term_ok (K:=3) dp0 (fun d m D=>by obtain⟨v,d',k,h1,h2,h3⟩:=s0 d m D;exact⟨v,d',k,h1,h2,h3.mono (by decide)⟩) g0
  have s1:Dwn S1 31 1 7:=seq_ok dp1.s1 dp1.s2 t1
  have g1:Dwn G2 33 2 8:=group_ok dp1.gn dp1.g1 dp1.ga s1
  have t2:Dwn T2 34 2 9:=term_ok (K:=6) dp1 (fun d m D=>by obtain⟨v,d',k,h1,h2,h3⟩:=s1 d m D;exact⟨v,d',k,h1,h2,h3.mono (by decide)⟩) g1
  exact seq_ok s2_one s2_two t2
end
section
set_option backward.match.sparseCases false
open PySem
theorem li_pre {S:List AV}:∀ {c z:List AV}{y:List AV},S=y++c++z→Li S y.length c
  | [],_,_,_=>trivial
  | x::c,z,y,h=>⟨by rw[h,List.append_assoc,List.getElem?_append_right (Nat.le_refl _),Nat.sub_self];rfl,by
    have:=li_pre (S:=S) (c:=c) (z:=z) (y:=y++[x]) (by rw[h,List.append_assoc y [x] c];rfl)
    rw[List.length_append] at this
    exact this⟩
theorem mul_tup1 {x:AV}{n:Nat}(h:n≤1000):abin .mul (.tup [x]) (.int n)=some (.tup (List.replicate n x)):=by
  have e:few 1 (n:Int)=true:=by
    unfold few
    rw[decide_eq_true (show(1:Nat)≤8 by decide),decide_eq_true (show(n:Int)≤1000 from Int.ofNat_le.mpr h),decide_eq_true (Int.natCast_nonneg n)];rfl
  show aif (few 1 (n:Int)=true) (AV.tup (rep [x] n))=_
  rw[ZG e]
  show some (AV.tup ((List.replicate n [x]).flatten))=_
  rw[List.flatten_replicate_singleton]
theorem mul_lst1 {x:AV}{n:Nat}(h:n≤1000):abin .mul (.lst [x]) (.int n)=some (.lst (List.replicate n x)):=by
  have e:few 1 (n:Int)=true:=by
    unfold few
    rw[decide_eq_true (show(1:Nat)≤8 by decide),decide_eq_true (show(n:Int)≤1000 from Int.ofNat_le.mpr h),decide_eq_true (Int.natCast_nonneg n)];rfl
  show aif (few 1 (n:Int)=true) (AV.lst (rep [x] n))=_
  rw[ZG e]
  show some (AV.lst ((List.replicate n [x]).flatten))=_
  rw[List.flatten_replicate_singleton]
noncomputable def Rdy (X:Cx)(sl lim:Nat):HP:=fun H=>H[sl]? = some (.list X.SL)∧∃ fs,H[lim]? = some (.inst .limits fs)∧fs .steps=some (.int ((10 ^ 9:Nat):Int))
noncomputable abbrev lp0 (X:Cx):List AV:=List.replicate X.nL (ZD 0 0)++List.replicate (X.cnt+1) (.int ((0:Nat):Int))
noncomputable abbrev g0 (X:Cx):List AV:=List.replicate X.cnt .none
noncomputable abbrev FMc (X:Cx)(sl lim a:Nat)(ic ml:Bool)(x y z w:Option AV):AF:=[some (.tup [.obj sl,.int X.nL]),some (.str X.cs),some (.int a),some (.int X.cnt),some (.bool ic),some (.bool ml),some (.obj lim),x,y,z,w]
section
variable {X:Cx}{sl lim a d n p K:Nat}{r:Option Rs}
theorem c_code (hc:X.cnt≤999)(hn:X.nL≤1000)(L:Lp X d (stA 0 a (g0 X) (lp0 X)) r n p)(h9:n≤10 ^ 9)(hp:p≤line)(hK:3 * d+6≤K)(hr:∀ q,r=some q→q.2.length≤line):Yc (K+1) (.fn 26) [.tup [.obj sl,.int X.nL],.str X.cs,.int a,.int X.cnt,.bool (icOf X.fl),.bool (mlOf X.fl),.obj lim] (Rdy X sl lim) (rL r) (fun q_=>True):=fun m hm H q=>by
  have K2:2≤K:=Nat.le_trans (Nat.le_trans (by decide) (Nat.le_add_left 6 (3 * d))) hK
  have lt9:n<jG:=Nat.lt_of_le_of_lt h9 (Nat.le_of_ble_eq_true rfl)
  have ns:Yc K (.cls .search) [.obj sl,.str X.cs,.bool (icOf X.fl),.bool (mlOf X.fl),.obj lim] (fun H'=>Rdy X sl lim H'∧H'.length=H.length) (.obj H.length) (SI X H.length sl (10 ^ 9) []):=(yc_cls (k:=18) rfl (i_search fun H h=>h)).mono K2
  have run:Yc K (.fn 19) [.obj H.length,.int ((0:Nat):Int),.int a,.tup (g0 X),.tup (lp0 X)] (SI X H.length sl (10 ^ 9) []) (rV r) (SI X H.length sl (10 ^ 9-n) []):=by
    have:=(c_run (s:=H.length) (sl:=sl) (M:=10 ^ 9-n) (W:=[]) L lt9 (by rw[List.length_nil,Nat.zero_add];exact hp)).mono hK
    rw[Nat.sub_add_cancel h9] at this
    exact this
  have all : Yc (K+1) (.fn 26) [.tup [.obj sl,.int X.nL],.str X.cs,.int a,.int X.cnt,.bool (icOf X.fl),.bool (mlOf X.fl),.obj lim] (fun H'=>Rdy X sl lim H'∧H'.length=H.length) (rL r) (SI X H.length sl (10 ^ 9-n) []) :=
    ZJ (f :=f_match_code) (fl := .ret (rL r)) (F':=FMc X sl lim a (icOf X.fl) (mlOf X.fl) (some (.obj sl)) (some (.int X.nL)) (some (.obj H.length)) (some (rV r))) (F:=FMc X sl lim a (icOf X.fl) (mlOf X.fl) none none none none) rfl rfl
      (zG (F1:=FMc X sl lim a (icOf X.fl) (mlOf X.fl) (some (.obj sl)) (some (.int X.nL)) none none) (yx_to (v := .tup [.obj sl,.int X.nL]) (zW rfl) (by kernel_rfl))
        (zG (F1:=FMc X sl lim a (icOf X.fl) (mlOf X.fl) (some (.obj sl)) (some (.int X.nL)) (some (.obj H.length)) none) (jK (ye_cls (c := .search) rfl (fun q=>nomatch q.1) (wW rfl) ns) (by show 9<11;decide))
          (zG (F1:=FMc X sl lim a (icOf X.fl) (mlOf X.fl) (some (.obj sl)) (some (.int X.nL)) (some (.obj H.length)) (some (rV r))) (jK (ye_own (p:=H.length) (c := .search) (j:=19) (zW rfl) (fun H h=>s_inst h) (fun q=>nomatch q) rfl (zY (v := .int ((0:Nat):Int)) (zW rfl) (zY (v := .int a) (zW rfl) (zY (JK (x := .tup [.none]) (y := .int X.cnt) (zW rfl) (zW rfl) (mul_tup1 (Nat.le_succ_of_le hc)))
            (zY (JK (JK (x := .tup [ZD 0 0]) (y := .int X.nL) (zW rfl) (zW rfl) (mul_tup1 hn)) (JK (x := .tup [.int ((0:Nat):Int)]) (y := .int ((X.cnt+1:Nat):Int)) (zW rfl) (zW rfl) (mul_tup1 (Nat.succ_le_succ hc))) (ZG ?_)) jF)))) run) (by show 10<11;decide)) (jJ ?_))))
  · obtain⟨H',e,_⟩:=all m hm H ⟨q,rfl⟩
    exact⟨H',e,trivial⟩
  · rw[List.length_replicate,List.length_replicate]
    exact Nat.le_trans (Nat.add_le_add hn (Nat.succ_le_succ hc)) (by decide)
  · cases r with
    | none=>exact zW (by kernel_rfl)
    | some q=>exact ye_itef (zW (by kernel_rfl)) (ye_tup (zY (v := .int q.1) (zW (by kernel_rfl)) (zY (ye_bi (f := .list) rfl (zY (v := .tup q.2) (zW (by kernel_rfl)) jF) fun H q_=>ZG (hr q rfl)) jF)))
end
theorem c_gc {v:AV}{c k E:Nat}{P:HP}(h:Gc v c k)(hk:k+2<line):Yc 1 (.fn 28) [v] (fun H=>P H∧H.length=E) (.int c) (Gh P E []):=fun n hn=>by
  obtain⟨m,_,rfl⟩:=wC hn
  have w:=h P E v 0 [] 1 c (by rw[Nat.zero_add];exact wh_end)
  obtain⟨x',e⟩:=w (by show 1+(1+k)<line;rw[Nat.add_comm 1 k,Nat.add_comm 1];exact hk) m none jG (Nat.le_trans (show 1+k≤line from Nat.le_of_lt (by rw[Nat.add_comm];exact Nat.lt_of_succ_lt hk)) (Nat.le_of_ble_eq_true rfl))
  have a:Yx 0 [some v,none,none,none] (s_swap [1,2] [(zX 0),(n_lst true [(zQ 0)])]) (fun H=>P H∧H.length=E) (FC v 0 E none) (Gh P E [v]) :=
    yx_swap (xs:=[.int ((0:Nat):Int),.obj E]) (zY (Q:=fun H=>P H∧H.length=E) (zW rfl) (zY (fun n hn H q=>⟨H++[.list [v]],by rw[←q.2];rfl,H,q.1,q.2,rfl⟩) jF)) ⟨rfl,rfl⟩
  have b:Yl (exs GlT (ac m) jG (f_group_count.body.drop 1) (FC v 0 E none)) (Gh P E [v]) (.ret (.int c),FC v c E x') (Gh P E []) :=
    zV (m:=(s_while gcT gcB).ex GlT (ac m) jG (FC v 0 E none)) (f:=fun p=>ZU (exs GlT (ac m) jG [jX (zQ 1)]) p) (v:=(Flo.next,FC v c E x')) (Q:=Gh P E []) (by rw[while_ex];exact e) (jJ (K:=0) (r:=[]) (F:=FC v c E x') (e:=zQ 1) (zW rfl) m (Nat.zero_le m))
  exact zV (f:=fun ir=>arun GlT jG (ac m) ir [v]) (y_opt (v:=f_group_count) rfl) (zV (f:=fun F=>zZ (exs GlT (ac m) jG f_group_count.body F) fun p=>zH p.1.val) (v:=[some v,none,none,none]) (y_opt rfl)
    (zV (f:=fun p:Flo×AF=>zH p.1.val) (v:=(Flo.ret (.int c),FC v c E x')) (zV (f:=fun p=>ZU (exs GlT (ac m) jG (f_group_count.body.drop 1)) p) (a m (Nat.zero_le m)) b) wQ))
end
section
set_option backward.match.sparseCases false
open PySem
theorem has_i {fl:List Nat}{P:HP}{K:Nat}{F:AF}{e:XE}(h:Ye K F e P (.str fl) P):Ye K F (zD OpC.isIn (jA [105]) e) P (.bool (icOf fl)) P:=jY (x := .str [105]) (zW rfl) h rfl
theorem has_m {fl:List Nat}{P:HP}{K:Nat}{F:AF}{e:XE}(h:Ye K F e P (.str fl) P):Ye K F (zD OpC.isIn (jA [109]) e) P (.bool (mlOf fl)) P:=jY (x := .str [109]) (zW rfl) h rfl
section
variable {cs fl:List Nat}{a n p K k kk lim sz nl cnt d A:Nat}{r:Option Rs}{v:AV}{cd:Nat→Nat→List AV}
theorem c_at (hc:∀ pc l,(cd pc l).length=sz)(hs:sz+1<line)(hp:Put v sz nl cd K)(hK:3 * d+7≤K)(hg:Gc v cnt kk)(hk:kk+2<line)(h1:cnt≤999)(h2:nl≤1000)(L:Lp ⟨cs,fl,cnt,nl,cd 0 0++[.tup [.int 15]]⟩ d (stA 0 a (g0 ⟨cs,fl,cnt,nl,cd 0 0++[.tup [.int 15]]⟩) (lp0 ⟨cs,fl,cnt,nl,cd 0 0++[.tup [.int 15]]⟩)) r n p)(h9:n≤10 ^ 9)(hpl:p≤line)(hr:∀ q,r=some q→q.2.length≤line) :
    Yc (K+2) (.fn 27) [v,.str cs,.int a,.str fl,.obj lim] (Has [(lim,.inst .limits lF)]) (rL r) (fun q_=>True):=fun m hm H q=>by
  let X:Cx:=⟨cs,fl,cnt,nl,cd 0 0++[.tup [.int 15]]⟩
  have K1:1≤K+1:=Nat.le_add_left 1 K
  have pc:Yc (K+1) (.fn 16) [v] (fun H'=>Has [(lim,.inst .limits lF)] H'∧H'.length=H.length) (.tup [.obj (H.length+1),.int nl]) (Pcs H.length (H.length+1) nl X.SL [(lim,.inst .limits lF)]):=c_pcode hp (Nat.le_trans (Nat.le_trans (by decide) (Nat.le_add_left 7 (3 * d))) hK) hc hs
  have gc:Yc (K+1) (.fn 28) [v] (Pcs H.length (H.length+1) nl X.SL [(lim,.inst .limits lF)]) (.int cnt) (Rdy X (H.length+1) lim):=fun n hn H1 q1=>by
    obtain⟨H2,e,H0,q0,_,rfl⟩:=((c_gc hg hk).mono K1) n hn H1 ⟨q1,rfl⟩
    refine⟨_,e,?_,lF,?_,rfl⟩
    · rw[List.getElem?_append_left (getLt q0.list)];exact q0.list
    · have:=(q0.oth _ (.head _)).1
      rw[List.getElem?_append_left (getLt this)];exact this
  have mc:Yc (K+1) (.fn 26) [.tup [.obj (H.length+1),.int X.nL],.str X.cs,.int a,.int X.cnt,.bool (icOf X.fl),.bool (mlOf X.fl),.obj lim] (Rdy X (H.length+1) lim) (rL r) (fun q_=>True):=c_code (K:=K) h1 h2 L h9 hpl (Nat.le_of_succ_le hK) hr
  have all:Yc (K+2) (.fn 27) [v,.str cs,.int a,.str fl,.obj lim] (fun H'=>Has [(lim,.inst .limits lF)] H'∧H'.length=H.length) (rL r) (fun q_=>True) :=
    ZJ (f:=f_match_at) (fl := .ret (rL r)) (F:=[some v,some (.str cs),some (.int a),some (.str fl),some (.obj lim)]) rfl rfl (jJ (jD (f:=26) rfl (zY (jD (f:=16) rfl (wW rfl) pc) (zY (zW rfl) (zY (zW rfl) (zY (jD (f:=28) rfl (wW rfl) gc) (zY (has_i (zW rfl)) (zY (has_m (zW rfl)) (zY (zW rfl) jF))))))) mc))
  exact all m hm H ⟨q,rfl⟩
end
theorem ok_steps:(setS2.all fun M=>(List.range 5).all fun r=>Nat.ble (M.s r+sm M.w r) (10 ^ 9))=true:=by decide +kernel
theorem same_some {xs:List AV}(h:∀ x∈xs,same 3 x x=true):sames (same 3) xs xs=true:=by
  induction xs with
  | nil=>rfl
  | cons x xs ih =>
    show(same 3 x x&&sames (same 3) xs xs)=true
    rw[h x (.head _),ih fun y hy=>h y (.tail _ hy)];rfl
theorem place {v:AV}{cnt a:Nat}{cs fl:List Nat}(h:S2 0 cnt v)(T:TxOk cs fl)(ha:a≤cs.length):∃ r,(∀ P,Yc 689 (.fn 43) [v,.str cs,.int a,.lst (List.replicate cnt .none),.str fl,.clo 4 []] P (rL r) P)∧(∀ lim,Yc 689 (.fn 27) [v,.str cs,.int a,.str fl,.obj lim] (Has [(lim,.inst .limits lF)]) (rL r) (fun q_=>True))∧JW .ne (rL r) (rL r)=some false∧cnt≤1000:=by
  refine via fun R_ k_=>?_
  obtain⟨P,hP,sz,nl,kk,cd,h1,h2,h3,h4,h5,h6,h7⟩:=h
  refine k_ ?_
  have hsz:sz≤512:=Nat.le_of_lt_succ (Nat.lt_of_not_le fun q=>absurd (Nat.le_trans (Nat.add_le_add q q) h2) (by decide))
  have hcnt:cnt≤512:=Nat.le_trans h4.2 (by rw[Nat.zero_add];exact hsz)
  have hnl:nl≤512:=Nat.le_trans h3 hsz
  let X:Cx:=⟨cs,fl,cnt,nl,cd 0 0++[.tup [.int 15]]⟩
  have hlen:X.SL.length=sz+1:=by show(cd 0 0++[_]).length=_;rw[List.length_append,h1];rfl
  have O:XOk X:=⟨T,by rw[hlen];exact Nat.le_trans (Nat.succ_le_succ hsz) (by decide),Nat.lt_of_le_of_lt (Nat.succ_le_succ (Nat.add_le_add hnl hcnt)) (by decide)⟩
  have hmet:X.SL[0+sz]? = some (.tup [.int 15]):=by
    rw[Nat.zero_add]
    show(cd 0 0++[_])[sz]? = _
    rw[List.getElem?_append_right (Nat.le_of_eq (h1 0 0)),h1,Nat.sub_self];rfl
  have S:=h7 X O 0 0 (li_pre (y:=[]) (z:=[.tup [.int 15]]) rfl) (Nat.le_refl _) (by rw[Nat.zero_add];exact Nat.le_refl _)
  obtain ⟨r,q1,q2,n,q3,q4⟩:=S 2 (fun r=>∀ q,r=some q→GOk X q.2) 4 [] 3 114 (fun q_=>1) a (g0 X) (lp0 X) (Nat.le_refl 2) (fun q e=>nomatch e) (Nat.le_refl 3) (Nat.le_refl 114) ha ⟨List.length_replicate,fun x hx => .inl (List.eq_of_mem_replicate hx)⟩ (by rw[List.length_append,List.length_replicate,List.length_replicate];rfl) fun a' g' lp' e1 e2 e3 e4 =>
    ⟨some (a',g'),fun q e=>by cases e;exact e3,fun P=>(yc_clo (K:=0) (f:=c_4) (F:=[some (.int a'),some (.lst g')]) rfl rfl rfl (zW rfl)).mono (Nat.le_trans (by decide) (ks_ge (Nat.le_refl 3))),1,Nat.le_refl 1,(lp_met O.sl hmet).more (Nat.zero_le _)⟩
  have hk:98+ks X 3 114 a≤689:=by
    have:ks X 3 114 a≤3+114 * 5:=Nat.add_le_add_left (Nat.mul_le_mul_left _ (Nat.le_trans (Nat.sub_le _ _) (Nat.succ_le_succ T.len))) 3
    exact Nat.le_trans (Nat.add_le_add_left this 98) (by decide)
  have h9:n≤10 ^ 9:=by
    rw[val_c1] at q3
    exact Nat.le_trans q3 (Nat.le_of_ble_eq_true (all_i (all_i ok_steps hP) (List.mem_range.mpr (Nat.lt_succ_of_le (Nat.le_trans (Nat.sub_le _ _) T.len)))))
  refine⟨r,fun P=>(q2 P).mono hk,fun lim=>(c_at (K:=99) (d:=2) h1 (Nat.lt_of_le_of_lt (Nat.succ_le_succ hsz) (by decide)) h5 (by decide) h6.2 (Nat.lt_of_le_of_lt (Nat.add_le_add_right h6.1 2) (by decide)) (Nat.le_trans hcnt (by decide)) (Nat.le_trans hnl (by decide)) q4 h9 (Nat.le_trans hk (by decide)) fun q e=>?_).mono (by decide),?_,Nat.le_trans hcnt (by decide)⟩
  · rw[(q1 q e).1];exact Nat.le_trans hcnt (by decide)
  · cases r with
    | none=>rfl
    | some q =>
      have s : same 5 (rL (some q)) (rL (some q))=true:=by
        show(decide (wY (.int q.1)=some (q.1:Int))&&(sames (same 3) q.2 q.2&&true))=true
        rw[decide_eq_true (show wY (.int q.1)=some (q.1:Int) from rfl),same_some fun x hx=>?_]
        · rfl
        · rcases (q1 q rfl).2 x hx with rfl | ⟨b,e,_,_,rfl⟩
          · rfl
          · show(decide (wY (.int b)=some (b:Int))&&(decide (wY (.int e)=some (e:Int))&&true))=true
            rw[decide_eq_true (show wY (.int b)=some (b:Int) from rfl),decide_eq_true (show wY (.int e)=some (e:Int) from rfl)];rfl
      show(aif (same 5 (rL (some q)) (rL (some q))=true) true).map (!·)=_
      rw[ZG s];rfl
end
section
set_option backward.match.sparseCases false
open PySem
noncomputable abbrev dB:List XS:=[(zU (zC 2 false) (jZ Op2.mod (jZ Op2.add (jZ Op2.add (jZ Op2.mul (zQ 2) (zX 69621)) (zQ 3)) (zX 9)) (zX 2147483647)))]
noncomputable abbrev dE:XE:=jZ Op2.mod (zK (zB 40) [(zK (zB 41) [(zQ 0)])]) (zX 1000003)
noncomputable abbrev dF (n:Nat):AV→AM (Option AV):=cfN n [[110,117,109,98,101,114]] dE (zC 0 false) [] []
noncomputable abbrev nmb (i:Int):Int:=(i.natAbs:Int) % 1000003
theorem d_comp {n:Nat}{P:HP}:∀ ys:List Int,Yl (acomp (dF n) (ys.map .int)) P ((ys.map nmb).map .int) P
  | []=>wQ
  | i :: r=>by
    refine zV (m:=dF n (.int i)) (f:=fun o=>zZ (acomp (dF n) (r.map .int)) fun l=>zH (match o with
      | some v=>v::l
      | none=>l)) (v:=some (.int (nmb i))) (wD fun H=>by kernel_rfl) ?_
    exact zV (f:=fun q=>zH (_::q)) (d_comp r) wQ
noncomputable abbrev FD4 (x:AV)(b c d:Option AV):AF:=[some x,b,c,d]
theorem d_seed {n:Nat}{P:HP}{a:AV}{b:Option AV}:∀ (ys:List Int)(s:Int)(x:Option AV),∃ s' x',∀ n,Yl (afor (fun x F=>zZ ((zC 3 false).st GlT (ac n) x F) fun F'=>exs GlT (ac n) jG dB F') (ys.map .int) (FD4 a b (some (.int s)) x)) P (.next,FD4 a b (some (.int s')) x') P
  | [],s,x=>⟨s,x,fun n=>wQ⟩
  | i::r,s,x=>by
    obtain⟨s',x',h⟩:=d_seed (n:=n) (P:=P) (a:=a) (b:=b) r ((s * 69621+i+9) % 2147483647) (some (.int i))
    exact⟨s',x',fun n=>zV (f:=fun p=>ZU (afor (fun x F=>zZ ((zC 3 false).st GlT (ac n) x F) fun F'=>exs GlT (ac n) jG dB F') (r.map .int)) p) (v:=(Flo.next,FD4 a b (some (.int ((s * 69621+i+9) % 2147483647))) (some (.int i)))) (zV (f:=fun F'=>exs GlT (ac n) jG dB F') (v:=FD4 a b (some (.int s)) (some (.int i))) (wD fun H=>rfl) (wD fun H=>by kernel_rfl)) (h n)⟩
theorem deal_ok (xs:List Int)(hx:xs.length≤63):∃ d,DealOk d 0∧Yc 1 (.fn 29) [.row (xs.map .int)] (fun H=>H=[]) (.obj 0) (hd1 d):=by
  let ns:List Int:=(xs.take 40).map nmb
  obtain⟨s',x',h⟩:=d_seed (n:=0) (P:=fun H=>H=[]) (a := .row (xs.map .int)) (b:=some (.lst (ns.map .int))) ns 51 none
  have ln:ns.length≤40:=by rw[List.length_map,List.length_take];exact Nat.min_le_left _ _
  refine ⟨dlA ns 0 s' 0,⟨ns,0,s',rfl,ln,Int.le_refl 0⟩,ZJ (f:=f_law_deal) (fl := .ret (.obj 0)) (F':=FD4 (.row (xs.map .int)) (some (.lst (ns.map .int))) (some (.int s')) x') (F:=FD4 (.row (xs.map .int)) none none none) rfl rfl (zG (F1:=FD4 (.row (xs.map .int)) (some (.lst (ns.map .int))) none none) (yx_acomp (fun n hn=>y_comp (names:=[[110,117,109,98,101,114]]) (l:=[]) (xs:=(xs.take 40).map .int) (src:=i_of (n_slc (zQ 0) none (some (zX 40)))) (caps:=[]) ?_ rfl (d_comp _) (by rw[List.length_map];exact Nat.le_trans ln (by decide))) (by show 1<4;decide))
    (zG (F1:=FD4 (.row (xs.map .int)) (some (.lst (ns.map .int))) (some (.int 51)) none) (jK (zW rfl) (by show 2<4;decide)) (zG (yx_for (xs:=ns.map .int) (fun n=>wD fun H=>rfl) fun n q_=>h n) (jJ fun n hn H q=>?_))))⟩
  · refine zV (f:=fun v=>jW (aiterOf v)) (v := .lst ((xs.take 40).map .int)) (ye_slt (K:=0) (x := .row (xs.map .int)) (z := .int ((40:Nat):Int)) (zW rfl) (zW rfl) (fun H q_=>?_) n (Nat.zero_le n)) (wD fun H=>rfl)
    show(part .none).bind (fun l=>(part (.int ((40:Nat):Int))).bind fun h=>aif ((xs.map AV.int).length≤line) (AV.lst (cut (xs.map .int) l h)))=_
    rw[part_nat (by decide)]
    show aif ((xs.map AV.int).length≤line) (AV.lst (cut (xs.map .int) none (some ((40:Nat):Int))))=_
    rw[ZG (by rw[List.length_map];exact Nat.le_trans hx (by decide)),cut_to,List.map_take]
  · cases q
    exact⟨_,rfl,rfl⟩
noncomputable abbrev tS:List Nat:=[97,98,10,65,97,98]
noncomputable abbrev tN:List (List Nat):=[[116,117,114,110],[100,101,97,108]]
noncomputable abbrev tE:XE:=zA (jA [97,98,10,65,97,98]) (zK (zB 53) [(zQ 1),(zX 6)])
theorem t_comp {g:Nat}:∀ (l:List AV)(d:AObj),DealOk d g→∃ (cs:List Nat)(d':AObj),DealOk d' g∧cs.length=l.length∧(∀ c∈cs,c∈LT)∧∀ n,1≤n→Yl (acomp (cfN n tN tE (zC 0 false) [] [(1,.obj 0)]) l) (hd1 d) (cs.map fun c => .str [c]) (hd1 d')
  | [],d,D=>⟨[],d,D,rfl,(fun c h=>nomatch h),fun n q_=>wQ⟩
  | x :: l,d,D=>by
    refine via fun R_ k_=>?_
    obtain⟨r,d1,hr,D1,e1⟩:=take_ok D (m:=6) (by decide)
    obtain⟨cs,d2,D2,h1,h2,e2⟩:=t_comp l d1 D1
    refine k_ ?_
    have hc:tS[r]? = some tS[r]:=List.getElem?_eq_getElem hr
    refine⟨tS[r]::cs,d2,D2,congrArg (· + 1) h1,fun c hm=>?_,fun n hn=>?_⟩
    · rcases List.mem_cons.mp hm with rfl | hm
      · exact(show ∀ c∈tS,c∈LT by decide) _ (List.getElem_mem hr)
      · exact h2 c hm
    · refine zV (m:=cfN n tN tE (zC 0 false) [] [(1,.obj 0)] x) (f:=fun o=>zZ (acomp (cfN n tN tE (zC 0 false) [] [(1,.obj 0)]) l) fun q=>zH (match o with
        | some v=>v::q
        | none=>q)) (v:=some (.str [tS[r]])) (Q:=hd1 d1) (zV (f:=fun F'=>zZ (ands GlT (ac n) F' []) fun b=>zZ (jW (wH b)) fun t=>if t then zZ (tE.ev GlT (ac n) F') (fun v=>zH (some v)) else zH none) (v:=[some x,some (.obj 0)]) (wD fun H=>rfl)
          (zV (f:=fun v=>zH (some v)) (ye_chr (K:=1) (cs:=tS) (j:=r) (zW rfl) (jD (f:=30) rfl (wW (vs:=[.obj 0,.int ((6:Nat):Int)]) rfl) e1) (Nat.le_trans (Nat.le_of_lt hr) (by decide)) hc n hn) wQ)) ?_
      exact zV (f:=fun q=>zH (_::q)) (e2 n hn) wQ
theorem strs_one:∀ cs:List Nat,strs? (cs.map fun c=>AV.str [c])=some (cs.map fun c=>[c])
  | []=>rfl
  | c::cs=>by
    show(strs? (cs.map fun c=>AV.str [c])).map ([c]::·)=_
    rw[strs_one cs];rfl
theorem flat_one:∀ cs:List Nat,(cs.map fun c=>[c]).flatten=cs
  | []=>rfl
  | c::cs=>congrArg (c::·) (flat_one cs)
theorem y_join {cs:List Nat}{P:HP}(hl:cs.length≤line):Yl (ame .join (.str []) [.lst (cs.map fun c => .str [c])]) P (.str cs) P:=wD fun H=>by
  show zZ (jW (aif (toStr (.str [])=some []) ())) (fun q_=>zZ (jW (one [AV.lst (cs.map fun c => .str [c])])) fun v=>zZ (jW (toLst v)) fun xs=>zZ (jW (strs? xs)) fun l=>zZ (jW (aif (l.flatten.length≤line) ())) fun q_=>zH (AV.str l.flatten)) H=_
  rw[opt_eq (ZG (x:=()) (show toStr (.str [])=some [] from rfl)),opt_eq (o:=one _) (x := .lst (cs.map fun c => .str [c])) rfl,opt_eq (o:=toLst _) (x:=cs.map fun c => .str [c]) rfl,opt_eq (strs_one cs),flat_one,opt_eq (ZG (x:=()) hl)];rfl
end
section
set_option backward.match.sparseCases false
open PySem
noncomputable abbrev FW (x:AV)(d t c s f a u:Option AV):AF:=[some x,d,t,c,s,f,a,u]
noncomputable abbrev FWl (x v:AV)(cnt:Nat)(cs fl:List Nat)(a u:Option AV):AF:=FW x (some (.obj 0)) (some v) (some (.int cnt)) (some (.str cs)) (some (.str fl)) a u
noncomputable abbrev lwB:List XS:=[(zU (zC 7 false) (zK (zB 66) [(zQ 2),(zQ 4),(zQ 6),(jZ Op2.mul (n_lst false [jV]) (zQ 3)),(zQ 5),(n_lam 4 [[101,110,100],[109,101,116]] [])])),
    (wB (zD OpC.ne (zK (zB 37) [(zQ 2),(zQ 4),(zQ 6),(zQ 5),(zK (zB 15) [])]) (zQ 7)) [(jX (n_bool false))] [])]
noncomputable abbrev Any:HP:=fun q_=>True
section
variable {x v:AV}{cnt a:Nat}{cs fl:List Nat}{y z:Option AV}
theorem lw_one (h:S2 0 cnt v)(T:TxOk cs fl)(ha:a≤cs.length):∃ z',∀ n,689≤n→Yl (zZ ((zC 6 false).st GlT (ac n) (.int a) (FWl x v cnt cs fl y z)) fun F'=>exs GlT (ac n) jG lwB F') Any (.next,FWl x v cnt cs fl (some (.int a)) z') Any:=by
  refine via fun R_ k_=>?_
  obtain⟨r,q1,q2,q3,q4⟩:=place h T ha
  refine k_ ?_
  have m:Ye 689 (FWl x v cnt cs fl (some (.int a)) (some (rL r))) (zK (zB 37) [(zQ 2),(zQ 4),(zQ 6),(zQ 5),(zK (zB 15) [])]) Any (rL r) Any:=fun n hn H q_=>by
    have lim:Yc 689 (.cls .limits) [] (fun H'=>Any H'∧H'.length=H.length) (.obj H.length) (Has [(H.length,.inst .limits lF)]):=fun n hn=>y_post (((yc_cls (k:=8) rfl i_limits).mono (by decide)) n hn) fun H' h' q hq=>by
      rcases List.mem_cons.mp hq with rfl | hq
      · exact newF_get h'
      · cases hq
    have all:Ye 689 (FWl x v cnt cs fl (some (.int a)) (some (rL r))) (zK (zB 37) [(zQ 2),(zQ 4),(zQ 6),(zQ 5),(zK (zB 15) [])]) (fun H'=>Any H'∧H'.length=H.length) (rL r) Any :=
      jD (f:=27) rfl (zY (zW rfl) (zY (zW rfl) (zY (zW rfl) (zY (zW rfl) (zY (ye_cls (c := .limits) (xs:=[]) rfl (fun q=>q.2 rfl) jF lim) jF))))) (q2 H.length)
    exact all n hn H ⟨trivial,rfl⟩
  exact ⟨some (rL r),fun n hn=>zV (f:=fun F'=>exs GlT (ac n) jG lwB F') (v:=FWl x v cnt cs fl (some (.int a)) z) (wD fun H=>rfl)
    (zG (K:=689) (F1:=FWl x v cnt cs fl (some (.int a)) (some (rL r))) (jK (jD (f:=43) rfl (zY (zW rfl) (zY (zW rfl) (zY (zW rfl) (zY (JK (x := .lst [.none]) (y := .int cnt) (zW (by kernel_rfl)) (zW rfl) (mul_lst1 q4)) (zY (zW rfl) (zY (v := .clo 4 []) (zW (by kernel_rfl)) jF)))))) (q1 Any)) (by show 7<8;decide))
      (ZV (jY m (zW rfl) q3) ZY) n hn)⟩
theorem lw_all (h:S2 0 cnt v)(T:TxOk cs fl):∀ (ps:List Nat)(y z:Option AV),(∀ a∈ps,a≤cs.length)→∃ y' z',∀ n,689≤n→Yl (afor (fun x F=>zZ ((zC 6 false).st GlT (ac n) x F) fun F'=>exs GlT (ac n) jG lwB F') (ps.map fun a:Nat=>AV.int a) (FWl x v cnt cs fl y z)) Any (.next,FWl x v cnt cs fl y' z') Any
  | [],y,z,_=>⟨y,z,fun n q_=>wQ⟩
  | a::ps,y,z,hp=>by
    obtain⟨z1,e1⟩:=lw_one (x:=x) (y:=y) (z:=z) h T (hp a (.head _))
    obtain⟨y',z',e2⟩:=lw_all h T ps (some (.int a)) z1 fun b m=>hp b (.tail _ m)
    exact⟨y',z',fun n hn=>zV (f:=fun p=>ZU (afor (fun x F=>zZ ((zC 6 false).st GlT (ac n) x F) fun F'=>exs GlT (ac n) jG lwB F') (ps.map fun a:Nat=>AV.int a)) p) (e1 n hn) (e2 n hn)⟩
end
theorem rng_nat (k:Nat):ZC 0 ((k:Nat):Int)=(List.range k).map fun a:Nat=>AV.int a:=by
  unfold ZC
  rw[Int.sub_zero,Int.toNat_natCast]
  exact congrArg (fun f=>(List.range k).map f) (funext fun i=>congrArg AV.int (Int.zero_add _))
theorem law_any (xs:List Int)(hx:xs.length≤63):Yc 690 (.fn 44) [.row (xs.map .int)] (fun H=>H=[]) (.bool true) Any:=by
  refine via fun R_ k_=>?_
  obtain⟨d,D,e0⟩:=deal_ok xs hx
  obtain⟨v,d1,cnt,hv,D1,e1⟩:=drawn d 0 D
  obtain⟨r,d2,hr,D2,e2⟩:=take_ok D1 (m:=4) (by decide)
  obtain⟨cs,d3,D3,c1,c2,e3⟩:=t_comp ((List.range (1+r)).map fun a:Nat=>AV.int a) d2 D2
  obtain⟨w,d4,hw,D4,e4⟩:=take_ok D3 (m:=4) (by decide)
  refine k_ ?_
  have hf:FLs[w]? = some FLs[w]:=List.getElem?_eq_getElem hw
  rw[List.length_map,List.length_range] at c1
  have T:TxOk cs FLs[w]:=⟨c2,List.getElem_mem hw,by rw[c1];exact Nat.le_trans (Nat.add_le_add_left (Nat.le_of_lt_succ hr) 1) (Nat.le_refl 4)⟩
  have hn:small ((1+r:Nat):Int)=true:=small_nat (Nat.le_trans (Nat.add_le_add_left (Nat.le_of_lt hr) 1) (by decide))
  obtain⟨y',z',e5⟩:=lw_all (x := .row (xs.map .int)) hv T (List.range (cs.length+1)) none none fun a m=>Nat.le_of_lt_succ (List.mem_range.mp m)
  have a2:Ye 689 (FW (.row (xs.map .int)) (some (.obj 0)) (some v) none none none none none) (zA (zQ 1) (zX 3)) (hd1 d1) (.int cnt) (hd1 d1):=by
    obtain⟨nums,i,s,rfl,hl,hi⟩:=D1
    exact ye_at fun n=>rfl
  have a3:Ye 689 (FW (.row (xs.map .int)) (some (.obj 0)) (some v) (some (.int cnt)) none none none none) (n_meth (jA []) Me.join [(n_comp tN tE (zC 0 false) (i_range1 (jZ Op2.add (zX 1) (zK (zB 53) [(zQ 1),(zX 4)]))) [] [(1,1)])]) (hd1 d1) (.str cs) (hd1 d3):=fun n hn' =>
    zV (f:=fun x=>zZ (amty .join x) fun q_=>zZ (evs GlT (ac n) (FW (.row (xs.map .int)) (some (.obj 0)) (some v) (some (.int cnt)) none none none none) [(n_comp tN tE (zC 0 false) (i_range1 (jZ Op2.add (zX 1) (zK (zB 53) [(zQ 1),(zX 4)]))) [] [(1,1)])]) fun xs=>ame .join x xs) (v := .str []) (Q:=hd1 d1) (wD fun H=>rfl)
      (zV (f:=fun q_=>zZ (evs GlT (ac n) (FW (.row (xs.map .int)) (some (.obj 0)) (some v) (some (.int cnt)) none none none none) [(n_comp tN tE (zC 0 false) (i_range1 (jZ Op2.add (zX 1) (zK (zB 53) [(zQ 1),(zX 4)]))) [] [(1,1)])]) fun xs=>ame .join (.str []) xs) (v:=()) (Q:=hd1 d1) (wD fun H=>rfl)
        (zV (f:=fun xs=>ame .join (.str []) xs) (zY (K:=689) (fun n hn=>y_comp (names:=tN) (src:=i_range1 (jZ Op2.add (zX 1) (zK (zB 53) [(zQ 1),(zX 4)]))) (caps:=[(1,1)]) (l:=[(1,.obj 0)]) (rng_nat (1+r)▸y_rng1 (JK (K:=689) (x := .int ((1:Nat):Int)) (y := .int r) (zW rfl) (jD (f:=30) rfl (wW (vs:=[.obj 0,.int ((4:Nat):Int)]) rfl) (e2.mono (by decide))) (add_nat 1 r) n hn) (by exact ‹small _=true›)) rfl (e3 n (Nat.le_trans (by decide) hn)) (by rw[List.length_map,c1];exact Nat.le_trans (Nat.add_le_add_left (Nat.le_of_lt hr) 1) (by decide))) jF n hn') (y_join T.lin)))
  have a4:Ye 689 (FW (.row (xs.map .int)) (some (.obj 0)) (some v) (some (.int cnt)) (some (.str cs)) none none none) (zA (n_lst false [(jA []),(jA [105]),(jA [109]),(jA [105,109])]) (zK (zB 53) [(zQ 1),(zX 4)])) (hd1 d3) (.str FLs[w]) (hd1 d4) :=
    ye_sub (x := .lst [.str [],.str [105],.str [109],.str [105,109]]) (y := .int w) (zW (by kernel_rfl)) (jD (f:=30) rfl (wW (vs:=[.obj 0,.int ((4:Nat):Int)]) rfl) (e4.mono (by decide))) fun H q_=>zsub_lst (Nat.le_trans (Nat.le_of_lt hw) (by decide)) (by
      show(FLs.map AV.str)[w]? = _
      rw[List.getElem?_map,hf];rfl)
  have a5:Yx 689 (FWl (.row (xs.map .int)) v cnt cs FLs[w] none none) (s_for (zC 6 false) (i_range1 (jZ Op2.add (zK (zB 39) [(zQ 4)]) (zX 1))) lwB) Any (FWl (.row (xs.map .int)) v cnt cs FLs[w] y' z') Any :=
    yx_for (fun n=>rng_nat (cs.length+1)▸y_rng1 (JK (K:=0) (x := .int cs.length) (y := .int ((1:Nat):Int)) (JJ (zW rfl) T.lin) (zW rfl) (add_nat _ 1) n (Nat.zero_le n)) (small_nat (Nat.le_trans (Nat.succ_le_succ T.len) (by decide)))) e5
  exact ZJ (f:=f_law) (fl := .ret (.bool true)) (F:=FW (.row (xs.map .int)) none none none none none none none) rfl rfl
    (zG (F1:=FW (.row (xs.map .int)) (some (.obj 0)) none none none none none none) (yx_to (v := .obj 0) (jD (f:=29) rfl (wW rfl) (e0.mono (by decide))) (by kernel_rfl))
      (zG (F1:=FW (.row (xs.map .int)) (some (.obj 0)) (some v) none none none none none) (jK (jD (f:=31) rfl (wW (vs:=[.obj 0,.int ((2:Nat):Int)]) rfl) (e1.mono (by decide))) (by show 2<8;decide))
        (zG (jK a2 (by show 3<8;decide)) (zG (jK a3 (by show 4<8;decide)) (zG (jK a4 (by show 5<8;decide)) (zG (fun n hn H q_=>a5 n hn H trivial) (jJ (zW rfl))))))))
theorem law_true (xs:List Int)(h:xs.length≤63):∃ H',ac 690 (.fn 44) [.row (xs.map .int)] []=some (.bool true,H'):=by
  obtain⟨H',e,_⟩:=law_any xs h 690 (Nat.le_refl _) [] rfl
  exact⟨H',e⟩
end
end Mine
end
namespace Mine.hd
theorem tw2867327485932766208:True:=⟨⟩
theorem tw4971549296188076032:True:=⟨⟩
theorem tw8735263284916673568:True:=⟨⟩
theorem tw1800889605409440832:True:=⟨⟩
theorem tw6276725880618359904:True:=⟨⟩
theorem tw16412773359747925120:True:=⟨⟩
theorem tw4706079058837389440:True:=⟨⟩
theorem tw6830512106363814048:True:=⟨⟩
theorem tw10458740792067480800:True:=⟨⟩
theorem tw17950676927832955104:True:=⟨⟩
theorem tw17387473266821786944:True:=⟨⟩
theorem tw7023726343779634624:True:=⟨⟩
theorem tw8134915037123179040:True:=⟨⟩
theorem tw15344866539931968096:True:=⟨⟩
theorem tw1359830224848277088:True:=⟨⟩
theorem tw4494801613693538912:True:=⟨⟩
theorem tw16154546982801380032:True:=⟨⟩
theorem tw17183224562656869120:True:=⟨⟩
theorem tw15643275761693703936:True:=⟨⟩
theorem tw17252143746492648416:True:=⟨⟩
theorem tw3650960628870763488:True:=⟨⟩
theorem tw10752148897807903841:True:=⟨⟩
theorem tw7610815399733428385:True:=⟨⟩
theorem tw10403243965636340961:True:=⟨⟩
theorem tw16037735763661986305:True:=⟨⟩
theorem tw18343703819029505601:True:=⟨⟩
theorem tw10678649693572172417:True:=⟨⟩
theorem tw5343241284826551009:True:=⟨⟩
theorem tw7914949630228597729:True:=⟨⟩
theorem tw11210553801493137410:True:=⟨⟩
theorem tw4272726840584523970:True:=⟨⟩
theorem tw9430268157657104642:True:=⟨⟩
theorem tw13919464512627920130:True:=⟨⟩
theorem tw12936449754285732098:True:=⟨⟩
theorem tw4702841417184801058:True:=⟨⟩
theorem tw758273949599710562:True:=⟨⟩
theorem tw17588044629489971554:True:=⟨⟩
theorem tw12271959270614036898:True:=⟨⟩
theorem tw5781342201191254626:True:=⟨⟩
theorem tw3919010098100093602:True:=⟨⟩
theorem tw5190246844813560578:True:=⟨⟩
theorem tw9960721518486171458:True:=⟨⟩
theorem tw18245042118932799458:True:=⟨⟩
theorem tw8228950375871286339:True:=⟨⟩
theorem tw1882180444382439491:True:=⟨⟩
theorem tw16904818350239718627:True:=⟨⟩
theorem tw18322514126500204803:True:=⟨⟩
theorem tw3229955645248102723:True:=⟨⟩
theorem tw5174551420813472067:True:=⟨⟩
theorem tw11754176132448286083:True:=⟨⟩
theorem tw6411954120941647267:True:=⟨⟩
theorem tw1760603350576429475:True:=⟨⟩
theorem tw13368278939475635651:True:=⟨⟩
theorem tw17087091549796120035:True:=⟨⟩
theorem tw11513968764499736323:True:=⟨⟩
theorem tw11631947586910100387:True:=⟨⟩
theorem tw18293851220164018083:True:=⟨⟩
theorem tw16477043939570097188:True:=⟨⟩
theorem tw6060742912462422084:True:=⟨⟩
theorem tw14896477498954680388:True:=⟨⟩
theorem tw6407587892757256292:True:=⟨⟩
theorem tw5278057926702712004:True:=⟨⟩
theorem tw14892549342360969540:True:=⟨⟩
theorem tw13855946660403688772:True:=⟨⟩
theorem tw8068729725432388964:True:=⟨⟩
theorem tw3219085151875037572:True:=⟨⟩
theorem tw11465210709893060100:True:=⟨⟩
theorem tw10949625832625181284:True:=⟨⟩
theorem tw2323474266016966308:True:=⟨⟩
theorem tw5732804406350252772:True:=⟨⟩
theorem tw1241404454085649124:True:=⟨⟩
theorem tw8458067239894703972:True:=⟨⟩
theorem tw3789350110615891812:True:=⟨⟩
theorem tw18241275227582772068:True:=⟨⟩
theorem tw8356816923877370021:True:=⟨⟩
theorem tw7355570028127101125:True:=⟨⟩
theorem tw6305734824756694309:True:=⟨⟩
theorem tw10258999931320997221:True:=⟨⟩
theorem tw11893437276241958245:True:=⟨⟩
theorem tw12399718760709695909:True:=⟨⟩
theorem tw1847840615245081061:True:=⟨⟩
theorem tw15790720579355451973:True:=⟨⟩
theorem tw11251137523995926341:True:=⟨⟩
theorem tw6438293893037913957:True:=⟨⟩
theorem tw14260913966351254405:True:=⟨⟩
theorem tw6555240042291301478:True:=⟨⟩
theorem tw13181700845877081190:True:=⟨⟩
theorem tw8268277133935991078:True:=⟨⟩
theorem tw16211521421427940678:True:=⟨⟩
theorem tw212345690472687942:True:=⟨⟩
theorem tw991583007596301734:True:=⟨⟩
theorem tw2386827423013361158:True:=⟨⟩
theorem tw3795277891434052102:True:=⟨⟩
theorem tw10424393626065333798:True:=⟨⟩
theorem tw17258206423299326598:True:=⟨⟩
theorem tw2195365466389143174:True:=⟨⟩
theorem tw13903934854276604550:True:=⟨⟩
theorem tw1865391376527767206:True:=⟨⟩
theorem tw4993660671451451078:True:=⟨⟩
theorem tw1506431575118746342:True:=⟨⟩
theorem tw8990313861142287110:True:=⟨⟩
theorem tw9386895884608548742:True:=⟨⟩
theorem tw8934143017859847078:True:=⟨⟩
theorem tw1589133516308662214:True:=⟨⟩
theorem tw5978321128707920903:True:=⟨⟩
theorem tw15043168886218598503:True:=⟨⟩
theorem tw17893044597097874663:True:=⟨⟩
theorem tw17062030032774818151:True:=⟨⟩
theorem tw8977307856219701671:True:=⟨⟩
theorem tw5635641802508607975:True:=⟨⟩
theorem tw3109861748172591687:True:=⟨⟩
theorem tw9557236495431379559:True:=⟨⟩
theorem tw12901994302517312135:True:=⟨⟩
theorem tw11660266114150955751:True:=⟨⟩
theorem tw7068711184596962023:True:=⟨⟩
theorem tw8960069828448710407:True:=⟨⟩
theorem tw5054737718236178183:True:=⟨⟩
theorem tw17672654358674132775:True:=⟨⟩
theorem tw7028611270464810887:True:=⟨⟩
theorem tw701787995468756871:True:=⟨⟩
theorem tw8545014587354053640:True:=⟨⟩
theorem tw8671608845466749128:True:=⟨⟩
theorem tw10246146449241189800:True:=⟨⟩
theorem tw16920754564084929960:True:=⟨⟩
theorem tw12949589719889679912:True:=⟨⟩
theorem tw14457593812595234344:True:=⟨⟩
theorem tw6038821095411175016:True:=⟨⟩
theorem tw4297731678662094536:True:=⟨⟩
theorem tw9724358948501437256:True:=⟨⟩
theorem tw17975533764899295144:True:=⟨⟩
theorem tw4870687313549177768:True:=⟨⟩
theorem tw3259873300814134281:True:=⟨⟩
theorem tw189712035060473897:True:=⟨⟩
theorem tw8959176491354863721:True:=⟨⟩
theorem tw18166333605607142505:True:=⟨⟩
theorem tw4225703048834024713:True:=⟨⟩
theorem tw14906377314874228009:True:=⟨⟩
theorem tw1129884963351977449:True:=⟨⟩
theorem tw3350844169311001129:True:=⟨⟩
theorem tw9566141503761928105:True:=⟨⟩
theorem tw5148922909946612681:True:=⟨⟩
theorem tw3915529967508079626:True:=⟨⟩
theorem tw13217225542625558698:True:=⟨⟩
theorem tw7120233287515763914:True:=⟨⟩
theorem tw5416991563250132298:True:=⟨⟩
theorem tw16794629799341752650:True:=⟨⟩
theorem tw17447410573909459338:True:=⟨⟩
theorem tw6528754448969337418:True:=⟨⟩
theorem tw10603584201595350602:True:=⟨⟩
theorem tw4360684699965382250:True:=⟨⟩
theorem tw10170382586518783626:True:=⟨⟩
theorem tw12487502673411948298:True:=⟨⟩
theorem tw4478964076566166474:True:=⟨⟩
theorem tw11128854368766332075:True:=⟨⟩
theorem tw13277076834127875243:True:=⟨⟩
theorem tw3443669649825651883:True:=⟨⟩
theorem tw11917015161858427179:True:=⟨⟩
theorem tw9170477692918782315:True:=⟨⟩
theorem tw10030107230732127627:True:=⟨⟩
theorem tw17054507655720011243:True:=⟨⟩
theorem tw9741134391959003819:True:=⟨⟩
theorem tw15089522573102190283:True:=⟨⟩
theorem tw10743916045514856203:True:=⟨⟩
theorem tw9748044761591592747:True:=⟨⟩
theorem tw8727321023445011275:True:=⟨⟩
theorem tw2999033326186475339:True:=⟨⟩
theorem tw8716120427605611371:True:=⟨⟩
theorem tw6196171512934965099:True:=⟨⟩
theorem tw978945382295711627:True:=⟨⟩
theorem tw6264232113106981867:True:=⟨⟩
theorem tw4315991029959535628:True:=⟨⟩
theorem tw6394381022753523788:True:=⟨⟩
theorem tw1836080755315867724:True:=⟨⟩
theorem tw12647368939536790636:True:=⟨⟩
theorem tw16299908979028503884:True:=⟨⟩
theorem tw12092154237167983948:True:=⟨⟩
theorem tw17711083657039698284:True:=⟨⟩
theorem tw5130813555471234732:True:=⟨⟩
theorem tw17948085552500728524:True:=⟨⟩
theorem tw18185175575083235020:True:=⟨⟩
theorem tw12588582704262371052:True:=⟨⟩
theorem tw15368132723985388332:True:=⟨⟩
theorem tw6819123309680001836:True:=⟨⟩
theorem tw12023040214023829324:True:=⟨⟩
theorem tw16171809288044610508:True:=⟨⟩
theorem tw15837987909243819085:True:=⟨⟩
theorem tw1409312971732116557:True:=⟨⟩
theorem tw1013155817946168525:True:=⟨⟩
theorem tw13321331477185743149:True:=⟨⟩
theorem tw16345102440705955213:True:=⟨⟩
theorem tw8457440626546761165:True:=⟨⟩
theorem tw4377701919642642989:True:=⟨⟩
theorem tw16828841361933241965:True:=⟨⟩
theorem tw5036846961687405229:True:=⟨⟩
theorem tw17606422857730326317:True:=⟨⟩
theorem tw10614716105012338702:True:=⟨⟩
theorem tw14294001040229213422:True:=⟨⟩
theorem tw3429492842335990350:True:=⟨⟩
theorem tw16722109127936396110:True:=⟨⟩
theorem tw14553816603554493358:True:=⟨⟩
theorem tw9345929723534960622:True:=⟨⟩
theorem tw1452849714261714991:True:=⟨⟩
theorem tw6082411064634330575:True:=⟨⟩
theorem tw3493717111155160527:True:=⟨⟩
theorem tw3759623122121258479:True:=⟨⟩
theorem tw12631932088317031055:True:=⟨⟩
theorem tw5987830557187376847:True:=⟨⟩
theorem tw6990203504111849199:True:=⟨⟩
theorem tw2101469004524951375:True:=⟨⟩
theorem tw11319892378374348655:True:=⟨⟩
theorem tw9657781627882305391:True:=⟨⟩
theorem tw13315533130655954831:True:=⟨⟩
theorem tw8879563391730754479:True:=⟨⟩
theorem tw16649331688326792143:True:=⟨⟩
theorem tw10111801491309104144:True:=⟨⟩
theorem tw402640490398009360:True:=⟨⟩
theorem tw16011055738799735888:True:=⟨⟩
theorem tw10216474801634566288:True:=⟨⟩
theorem tw16853341256802265648:True:=⟨⟩
theorem tw4856431653887292112:True:=⟨⟩
theorem tw13518370688599389936:True:=⟨⟩
theorem tw15595854959937240912:True:=⟨⟩
theorem tw12614811148066621264:True:=⟨⟩
theorem tw13790719812936386609:True:=⟨⟩
theorem tw17213754286329925777:True:=⟨⟩
theorem tw432457690288141553:True:=⟨⟩
theorem tw14705683404202351889:True:=⟨⟩
theorem tw17903497710992402801:True:=⟨⟩
theorem tw16634568088961857937:True:=⟨⟩
theorem tw15852365999677673905:True:=⟨⟩
theorem tw16056359734778111409:True:=⟨⟩
theorem tw7082855905992002993:True:=⟨⟩
theorem tw3828038474966422129:True:=⟨⟩
theorem tw12113243949977362033:True:=⟨⟩
theorem tw5961118342813265553:True:=⟨⟩
theorem tw8117029840178788049:True:=⟨⟩
theorem tw6545403380812914513:True:=⟨⟩
theorem tw8025032847418708242:True:=⟨⟩
theorem tw9641152695372364146:True:=⟨⟩
theorem tw15166520500009309586:True:=⟨⟩
theorem tw9499510787657705874:True:=⟨⟩
theorem tw7754304195085646258:True:=⟨⟩
theorem tw5366084841770067474:True:=⟨⟩
theorem tw2167537188350426706:True:=⟨⟩
theorem tw5282504435634884242:True:=⟨⟩
theorem tw1580110805410547442:True:=⟨⟩
theorem tw14560493823538711346:True:=⟨⟩
theorem tw6293948785866598258:True:=⟨⟩
theorem tw12629568148972539762:True:=⟨⟩
theorem tw7296583596125217682:True:=⟨⟩
theorem tw16740174149368742834:True:=⟨⟩
theorem tw8112040973832200146:True:=⟨⟩
theorem tw1097998534492414930:True:=⟨⟩
theorem tw15083628210047938546:True:=⟨⟩
theorem tw10601615944963115059:True:=⟨⟩
theorem tw5567388512258382067:True:=⟨⟩
theorem tw5657824000916062451:True:=⟨⟩
theorem tw7289634563603522867:True:=⟨⟩
theorem tw16945582573551092051:True:=⟨⟩
theorem tw1382963296337349011:True:=⟨⟩
theorem tw16432713993328977331:True:=⟨⟩
theorem tw5363564295841288755:True:=⟨⟩
theorem tw11151547217846952531:True:=⟨⟩
theorem tw18103342009636024947:True:=⟨⟩
theorem tw4115565904173853331:True:=⟨⟩
theorem tw3008623586974134963:True:=⟨⟩
theorem tw16640546478005224243:True:=⟨⟩
theorem tw13409441903868389331:True:=⟨⟩
theorem tw8789358453043137523:True:=⟨⟩
theorem tw4851647983119433812:True:=⟨⟩
theorem tw15529170255622000948:True:=⟨⟩
theorem tw6164396464334811476:True:=⟨⟩
theorem tw7540655947842036084:True:=⟨⟩
theorem tw15422856539912107476:True:=⟨⟩
theorem tw6998783941825042932:True:=⟨⟩
theorem tw7366208706002141716:True:=⟨⟩
theorem tw4014540891139286612:True:=⟨⟩
theorem tw18293732401869909652:True:=⟨⟩
theorem tw1997569388931296116:True:=⟨⟩
theorem tw17542962492245011380:True:=⟨⟩
theorem tw1439246655266547700:True:=⟨⟩
theorem tw6598312636042714100:True:=⟨⟩
theorem tw11162318198679636149:True:=⟨⟩
theorem tw17703440808498902325:True:=⟨⟩
theorem tw13225837485096350037:True:=⟨⟩
theorem tw6442067068224118133:True:=⟨⟩
theorem tw14103535550066685397:True:=⟨⟩
theorem tw2608437505485318709:True:=⟨⟩
theorem tw17673860158736603733:True:=⟨⟩
theorem tw3571134770919094901:True:=⟨⟩
theorem tw12173100003817136821:True:=⟨⟩
theorem tw7494724483528729301:True:=⟨⟩
theorem tw15508949281206285077:True:=⟨⟩
theorem tw13609717118414637909:True:=⟨⟩
theorem tw13483081372092288885:True:=⟨⟩
theorem tw9427301549700849589:True:=⟨⟩
theorem tw6820862383352777685:True:=⟨⟩
theorem tw8343274005884668182:True:=⟨⟩
theorem tw1413172679324656950:True:=⟨⟩
theorem tw16473244170626142550:True:=⟨⟩
theorem tw3452082135128663414:True:=⟨⟩
theorem tw11213053971927718326:True:=⟨⟩
theorem tw7752767780024739350:True:=⟨⟩
theorem tw1011335219593555734:True:=⟨⟩
theorem tw8428860471423672150:True:=⟨⟩
theorem tw6184460063843016694:True:=⟨⟩
theorem tw15367242080415987702:True:=⟨⟩
theorem tw15615537253650120727:True:=⟨⟩
theorem tw2216850387143573719:True:=⟨⟩
theorem tw16970440968685349367:True:=⟨⟩
theorem tw3442329435671937591:True:=⟨⟩
theorem tw13783031573616600631:True:=⟨⟩
theorem tw16064382804478563927:True:=⟨⟩
theorem tw17901807376057305687:True:=⟨⟩
theorem tw15416985209724490359:True:=⟨⟩
theorem tw11402939732021071671:True:=⟨⟩
theorem tw307737655149646647:True:=⟨⟩
theorem tw3381375190539634487:True:=⟨⟩
theorem tw10879034167726328663:True:=⟨⟩
theorem tw11389486352061984695:True:=⟨⟩
theorem tw11136197038861592535:True:=⟨⟩
theorem tw9345676750909349944:True:=⟨⟩
theorem tw18300207936620678264:True:=⟨⟩
theorem tw5562173858411828344:True:=⟨⟩
theorem tw17650839729002327288:True:=⟨⟩
theorem tw2274498078352570744:True:=⟨⟩
theorem tw15759970867653108152:True:=⟨⟩
theorem tw5511420028821071320:True:=⟨⟩
theorem tw13866372431405929976:True:=⟨⟩
theorem tw26425463804135960:True:=⟨⟩
theorem tw13267510147771200024:True:=⟨⟩
theorem tw14176624398918483544:True:=⟨⟩
theorem tw10727248033764811480:True:=⟨⟩
theorem tw8770205317985620760:True:=⟨⟩
theorem tw4065347644161347641:True:=⟨⟩
theorem tw728884934406724761:True:=⟨⟩
theorem tw2213181580616183961:True:=⟨⟩
theorem tw2603259988358896889:True:=⟨⟩
theorem tw18291419657060728153:True:=⟨⟩
theorem tw15411387601460861337:True:=⟨⟩
theorem tw1222794163293265305:True:=⟨⟩
theorem tw10784824025267889561:True:=⟨⟩
theorem tw11054480109507316185:True:=⟨⟩
theorem tw3953601041324332601:True:=⟨⟩
theorem tw16772102934027710169:True:=⟨⟩
theorem tw4233181963852624665:True:=⟨⟩
theorem tw17574625026820762457:True:=⟨⟩
theorem tw17330945745186091897:True:=⟨⟩
theorem tw6982297934935202809:True:=⟨⟩
theorem tw17047115858639842297:True:=⟨⟩
theorem tw5902613922787404954:True:=⟨⟩
theorem tw11953376511379268794:True:=⟨⟩
theorem tw15673258824015622330:True:=⟨⟩
theorem tw541196102884509978:True:=⟨⟩
theorem tw12050417470231563642:True:=⟨⟩
theorem tw464777395874653626:True:=⟨⟩
theorem tw6868836192036940282:True:=⟨⟩
theorem tw9421340871869096474:True:=⟨⟩
theorem tw1600037746751723098:True:=⟨⟩
theorem tw5373601922739893978:True:=⟨⟩
theorem tw14960593345356199642:True:=⟨⟩
theorem tw11232374478483605306:True:=⟨⟩
theorem tw11652457597714270106:True:=⟨⟩
theorem tw15371269306720811930:True:=⟨⟩
theorem tw13372043803930879067:True:=⟨⟩
theorem tw11032806212648032379:True:=⟨⟩
theorem tw15103106377680225435:True:=⟨⟩
theorem tw14353793391729792155:True:=⟨⟩
theorem tw14478148883734587675:True:=⟨⟩
theorem tw6767318904944593275:True:=⟨⟩
theorem tw10024716035694756283:True:=⟨⟩
theorem tw13828106393651249627:True:=⟨⟩
theorem tw16007149819294483003:True:=⟨⟩
theorem tw2068664650715991707:True:=⟨⟩
theorem tw9719896912496429819:True:=⟨⟩
theorem tw17177331786930743035:True:=⟨⟩
theorem tw461538923250603899:True:=⟨⟩
theorem tw15642763164714097627:True:=⟨⟩
theorem tw13770079208771991547:True:=⟨⟩
theorem tw11319097763535126812:True:=⟨⟩
theorem tw395138700845864316:True:=⟨⟩
theorem tw15615420239508185596:True:=⟨⟩
theorem tw16091413853298234908:True:=⟨⟩
theorem tw7085514621470718492:True:=⟨⟩
theorem tw2887051446865420828:True:=⟨⟩
theorem tw3451239065008710300:True:=⟨⟩
theorem tw17599816209265215132:True:=⟨⟩
theorem tw2327210489368252092:True:=⟨⟩
theorem tw2252305205657439004:True:=⟨⟩
theorem tw4402725079659364252:True:=⟨⟩
theorem tw11117797201346649052:True:=⟨⟩
theorem tw17986969038992634876:True:=⟨⟩
theorem tw18219297243305740317:True:=⟨⟩
theorem tw922143313871775805:True:=⟨⟩
theorem tw17714235663813219645:True:=⟨⟩
theorem tw6924109203229866365:True:=⟨⟩
theorem tw10792051664901133789:True:=⟨⟩
theorem tw5608270528595127837:True:=⟨⟩
theorem tw7763873220885509757:True:=⟨⟩
theorem tw3646829019195819677:True:=⟨⟩
theorem tw8226494294326810461:True:=⟨⟩
theorem tw221497870779424605:True:=⟨⟩
theorem tw15833661619300960221:True:=⟨⟩
theorem tw16194383521188589630:True:=⟨⟩
theorem tw9277588360372424766:True:=⟨⟩
theorem tw3182187488490625086:True:=⟨⟩
theorem tw9673543361469618366:True:=⟨⟩
theorem tw6838551448383532254:True:=⟨⟩
theorem tw16259696140248634718:True:=⟨⟩
theorem tw4172343393113369950:True:=⟨⟩
theorem tw17681399029576232318:True:=⟨⟩
theorem tw13431754692932380062:True:=⟨⟩
theorem tw17901334829092211166:True:=⟨⟩
theorem tw17739348878880393726:True:=⟨⟩
theorem tw2329189449893159454:True:=⟨⟩
theorem tw3480954088277226078:True:=⟨⟩
theorem tw9763420282994701918:True:=⟨⟩
theorem tw7510230149288206974:True:=⟨⟩
theorem tw8047900516022102942:True:=⟨⟩
theorem tw14620637471214046174:True:=⟨⟩
theorem tw14955159897011116063:True:=⟨⟩
theorem tw6931407450589930559:True:=⟨⟩
theorem tw12070051907170230399:True:=⟨⟩
theorem tw3530705653197291679:True:=⟨⟩
theorem tw4478166936697009375:True:=⟨⟩
theorem tw14400467628812073631:True:=⟨⟩
theorem tw3309697970292668127:True:=⟨⟩
theorem tw7519716089354478335:True:=⟨⟩
theorem tw3215718560900784014:True:=⟨⟩
theorem tw9120999728284197611:True:=⟨⟩
theorem tw4005110847755344681:True:=⟨⟩
theorem tw2129695795049404400:True:=⟨⟩
theorem tw5875755337557543767:True:=⟨⟩
theorem tw15347494238783688032:True:=⟨⟩
theorem tw17042694160793651959:True:=⟨⟩
theorem tw16240987189780228909:True:=⟨⟩
theorem tw2321503477829929318:True:=⟨⟩
end Mine.hd
namespace Mine
section
set_option Elab.async true
set_option tactic.hygienic false
set_option genSizeOf false
set_option genInjectivity false
open PySem PySem.W PySem.W.X PySem.W.ZRun PyProof.Rows
set_option maxRecDepth 100000 in
set_option maxHeartbeats 0 in
set_option pp.proofs false in
set_option pp.deepTerms false in
theorem hd:PySem.Challenge.rw_nt0364_01.Holds:=by
  w_on
  o_law
  k_head
  (case hw=>w_witness2)
  k_fill
  intro w s₀ s₁ mg mb G Y fa o pm cd doc dV kV ho hd hcd hD hmg hg args vals as hpre hlay hrd hwl hlo
  have KX:=km_in_of Y
  have KT:=km_tabs_of Y
  clear Y
  refine Ground.open G ?_
  intro T B D TE TW
  clear B D TE TW G
  wrow_args hpre hlay hrd hwl hlo
  rename IntsAre _ _=>hI
  rename Heap.IsList _ _ _=>hL
  rename ¬ (_<_)=>hlen
  refine fin_law law_true ?hF KX KT T.g T.bmain T.b T.builtins T.nolimit (by kernel_rfl) hmg hL hI (by omega) hg (fun q_=>rfl) ?hp
  case hp=>first | wrow_post | kernel_rfl
  exact⟨by kernel_rfl,by kernel_rfl,by kernel_rfl,by kernel_rfl,by kernel_rfl,by kernel_rfl,by kernel_rfl,by kernel_rfl,by kernel_rfl,⟨by kernel_rfl,fun S x u1 u2 u3 u4=>by kernel_rfl,fun S x=>by kernel_rfl,fun S x u=>by kernel_rfl⟩,by kernel_rfl,by kernel_rfl,by kernel_rfl⟩
end
end Mine
theorem PySem.Challenge.cw_nt0364_01_holds : PySem.Challenge.rw_nt0364_01.Holds := by
  exact Mine.hd
